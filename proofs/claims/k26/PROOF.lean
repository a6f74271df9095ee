import PyProof.Rows.All
import Wide.All
import OpenK.AllK
import Wide.FinOn
import KE.KStateDown
import HandS.ForMost
import HandS.Exc
import HandS.WordsExc
import HandS.Defaults
import HandS.Conv
import HandS.Flow
import HandS.IsInst
import HandS.Codes
import HandS.Dict
import HandS.Star
import HandS.Iter
import HandS.Zip
import HandS.Text
import HandS.TupAny
import HandS.Style
import HandS.SortInts
import PyProof.Rows.TmSorted
import PyProof.Rows.SortStr
import KE.KeyNested
import PyProof.DictRoadsH
import PyProof.Rows.TupTab
import HandS.Head0
import HandS.Head1
import HandS.Head2
import HandS.HeadEnd
import HandS.HeadHook1
import HandS.HeadHook2
import KE.KOpsOwn
import KE.KExcSuper
import HandS.ExcInit
import HandS.ExcField
import KE.SortData
import HandS.DictTup
import PyProof.DictMoreH
import HandS.NoneIn
import HandS.SetFor
import HandS.Strs
import KE.DataCmp
import HandS.Replace
import HandS.ReplaceList
import KE.KDictSum
import KE.KDictCopyH
import KE.KCallOwn
import HandS.FStr
import HandS.ExcValue
import HandS.Deep
import HandS.ExcOwn
import KE.KExcIs
import HandS.Property
import HandS.MakeKwOnly
import HandS.ClsMeth
import HandS.SetBool
import HandS.TupSets
import HandS.CallSlots
import PySem.Challenge.RW_gluedlines_k26_rules_made_and_changed
set_option Elab.async false
set_option linter.all false
set_option maxRecDepth 100000
set_option maxHeartbeats 4000000
set_option synthInstance.maxSize 1000
set_option synthInstance.maxHeartbeats 400000
namespace Gl
open PySem PySem.Spec PyProof.Rows L2
/-! ## partial results -/
def gd {α : Type} (b : Bool) (x : Option α) : Option α := match b with
  | true => x
  | false => none
theorem gd_some {α : Type} {b : Bool} {x : Option α} {r : α} (h : gd b x = some r) : b = true ∧ x = some r := by
  cases b with
  | true => exact ⟨rfl, h⟩
  | false => cases h
theorem gd_true {α : Type} {b : Bool} {x : Option α} (h : b = true) : gd b x = x := by rw [h]; rfl
theorem bd_some {α β : Type} {x : Option α} {k : α → Option β} {r : β} (h : x.bind k = some r) : ∃ a, x = some a ∧ k a = some r := by
  cases x with
  | none => cases h
  | some a => exact ⟨a, rfl, h⟩
/-- how a block ends: it goes on, it breaks off its loop, or it returns -/
inductive Ctl (S R : Type) where
  | nx (s : S) | bk (s : S) | rt (r : R)

/-! ## values that stand for Lean's -/
theorem pGet {α β : Type} {R : α → β → Prop} : ∀ {xs : List α} {ys : List β} {i : Nat} {y : β}, Paired R xs ys → ys[i]? = some y → ∃ x, xs[i]? = some x ∧ R x y
  | _, _, _, _, .nil, e => by simp at e
  | _, _, 0, _, .cons r _, e => by simp at e; subst e; exact ⟨_, rfl, r⟩
  | _, _, i + 1, y, .cons _ t, e => by
    obtain ⟨x, h1, h2⟩ := pGet (i := i) (y := y) t (by simpa using e)
    exact ⟨x, by simpa using h1, h2⟩
theorem pGetL {α β : Type} {R : α → β → Prop} : ∀ {xs : List α} {ys : List β} {i : Nat} {x : α}, Paired R xs ys → xs[i]? = some x → ∃ y, ys[i]? = some y ∧ R x y
  | _, _, _, _, .nil, e => by simp at e
  | _, _, 0, _, .cons r _, e => by simp at e; subst e; exact ⟨_, rfl, r⟩
  | _, _, i + 1, y, .cons _ t, e => by
    obtain ⟨x, h1, h2⟩ := pGetL (i := i) (x := y) t (by simpa using e)
    exact ⟨x, by simpa using h1, h2⟩
theorem pApp {α β : Type} {R : α → β → Prop} : ∀ {xs xs' : List α} {ys ys' : List β}, Paired R xs ys → Paired R xs' ys' → Paired R (xs ++ xs') (ys ++ ys')
  | _, _, _, _, .nil, s => s
  | _, _, _, _, .cons r t, s => .cons r (pApp t s)
theorem pDrop {α β : Type} {R : α → β → Prop} : ∀ {xs : List α} {ys : List β} (n : Nat), Paired R xs ys → Paired R (xs.drop n) (ys.drop n)
  | _, _, 0, r => r
  | _, _, _ + 1, .nil => .nil
  | _, _, n + 1, .cons _ t => pDrop n t
theorem pTake {α β : Type} {R : α → β → Prop} : ∀ {xs : List α} {ys : List β} (n : Nat), Paired R xs ys → Paired R (xs.take n) (ys.take n)
  | _, _, 0, _ => .nil
  | _, _, _ + 1, .nil => .nil
  | _, _, n + 1, .cons r t => .cons r (pTake n t)
theorem pLen {α β : Type} {R : α → β → Prop} {xs : List α} {ys : List β} (h : Paired R xs ys) : xs.length = ys.length := h.length
/-- how values stand for Lean's, in what stands for good -/
structure R (α : Type) where
  r : PySem.W.Frag → Hp → V → α → Prop
  mono : ∀ {K : PySem.W.Frag} {F F' : Hp} {v : V} {a : α}, Same F F' → r K F v a → r K F' v a
def qI : R Int := ⟨fun _ _ v i => v = .int i, fun _ h => h⟩
def qB : R Bool := ⟨fun _ _ v i => v = .bl i, fun _ h => h⟩
def qS : R Str := ⟨fun _ _ v i => v = .str i, fun _ h => h⟩
def qN : R Unit := ⟨fun _ _ v _ => v = .non, fun _ h => h⟩
def qO {α : Type} (A : R α) : R (Option α) := ⟨fun K F v i => match i with
  | none => v = .non
  | some a => A.r K F v a, fun {K F F' v a} e h => by
    cases a with
    | none => exact h
    | some a => exact A.mono e h⟩
/-- all of a row -/
abbrev Row {α : Type} (A : R α) (K : PySem.W.Frag) (F : Hp) (vs : List V) (xs : List α) : Prop := Paired (fun v x => A.r K F v x) vs xs
theorem Row.mono {α : Type} {A : R α} {K : PySem.W.Frag} {F F' : Hp} {vs : List V} {xs : List α} (e : Same F F') (h : Row A K F vs xs) : Row A K F' vs xs := Paired.mapP h fun _ _ r => A.mono e r
theorem same_t {K : PySem.W.Frag} {H H' : Hp} {a : Addr} {xs : List V} (e : Same H H') (h : SqT K H a xs) : SqT K H' a xs := by
  rcases h with (h | ⟨o, h⟩) | h
  · exact .inl (.inl (e _ _ h))
  · exact .inl (.inr ⟨o, e _ _ h⟩)
  · exact .inr h
/-- a list, a tuple, one of both -/
def qL {α : Type} (A : R α) : R (List α) := ⟨fun K F v xs => ∃ p vs, v = .ref p ∧ F p = some (.lst vs) ∧ Row A K F vs xs, fun e ⟨p, vs, h1, h2, h3⟩ => ⟨p, vs, h1, e _ _ h2, Row.mono e h3⟩⟩
def qT {α : Type} (A : R α) : R (List α) := ⟨fun K F v xs => ∃ p vs, v = .ref p ∧ SqT K F p vs ∧ Row A K F vs xs, fun e ⟨p, vs, h1, h2, h3⟩ => ⟨p, vs, h1, same_t e h2, Row.mono e h3⟩⟩
def qQ {α : Type} (A : R α) : R (List α) := ⟨fun K F v xs => (qL A).r K F v xs ∨ (qT A).r K F v xs, fun e h => h.elim (fun h => .inl ((qL A).mono e h)) fun h => .inr ((qT A).mono e h)⟩
/-- tuples of two, of three -/
def q2 {α β : Type} (A : R α) (B : R β) : R (α × β) := ⟨fun K F v x => ∃ p u w, v = .ref p ∧ SqT K F p [u, w] ∧ A.r K F u x.1 ∧ B.r K F w x.2, fun e ⟨p, u, w, h1, h2, h3, h4⟩ => ⟨p, u, w, h1, same_t e h2, A.mono e h3, B.mono e h4⟩⟩
def q3 {α β γ : Type} (A : R α) (B : R β) (C : R γ) : R (α × β × γ) := ⟨fun K F v x => ∃ p u w z, v = .ref p ∧ SqT K F p [u, w, z] ∧ A.r K F u x.1 ∧ B.r K F w x.2.1 ∧ C.r K F z x.2.2, fun e ⟨p, u, w, z, h1, h2, h3, h4, h5⟩ => ⟨p, u, w, z, h1, same_t e h2, A.mono e h3, B.mono e h4, C.mono e h5⟩⟩

/-! ## frozen and owned -/
/-- F: what stands for good within H; F0, H0: at the def's entry; P: what the def may change of it -/
structure Sx (P : Addr → Prop) (F0 H0 F H : Hp) : Prop where
  le : Same F0 F
  sub : Same F H
  new : ∀ a o, F a = some o → F0 a = none → H0 a = none ∨ P a
  same : ∀ a o, H0 a = some o → ¬ P a → H a = some o
  live : ∀ a, P a → H a ≠ none
/-- an object of the def's own: it may change it -/
structure Ow (P : Addr → Prop) (H0 F H : Hp) (p : Addr) (o : HO) : Prop where
  fr : F p = none
  at_ : H p = some o
  mine : H0 p = none ∨ P p
abbrev P0 : Addr → Prop := fun _ => False
section
variable {P P' : Addr → Prop} {F0 H0 F H F' H' : Hp} {p q : Addr} {o u : HO}
theorem Sx.refl (h : Same F H) (l : ∀ a, P a → H a ≠ none) : Sx P F H F H := ⟨Same.refl F, h, fun a o e n => absurd (n.symm.trans e) (fun z => nomatch z), fun _ _ e _ => e, l⟩
theorem Sx.refl0 (h : Same F H) : Sx P0 F H F H := Sx.refl h fun _ z => z.elim
theorem Sx.free (S : Sx P F0 H0 F H) (h : H q = none) : F q = none := S.sub.free h
theorem Sx.free0 (S : Sx P F0 H0 F H) (h : H q = none) : H0 q = none := by
  cases e : H0 q with
  | none => rfl
  | some o =>
    have np : ¬ P q := fun z => S.live q z h
    have := S.same q o e np
    rw [h] at this
    cases this
theorem Sx.leN (S : Sx P F0 H0 F H) (h : H q = none) : Same F (upd F q o) := fun a u e => by
  rw [upd_ne (ne_of_none e (S.free h))]
  exact e
/-- a new object that is not kept -/
theorem Sx.temp (S : Sx P F0 H0 F H) (h : H q = none) : Sx P F0 H0 F (upd H q o) := by
  refine ⟨S.le, fun a u e => ?_, S.new, fun a u e n => ?_, fun a z => ?_⟩
  · rw [upd_ne (ne_of_none (S.sub a u e) h)]; exact S.sub a u e
  · rw [upd_ne (ne_of_none (S.same a u e n) h)]; exact S.same a u e n
  · have l := S.live a z
    have ne : a ≠ q := fun e => l (by rw [e]; exact h)
    rw [upd_ne ne]; exact l
/-- a new object that stands for good -/
theorem Sx.alloc (S : Sx P F0 H0 F H) (h : H q = none) : Sx P F0 H0 (upd F q o) (upd H q o) := by
  refine ⟨S.le.trans (S.leN h), fun a u e => ?_, fun a u e n => ?_, (S.temp h).same, (S.temp h).live⟩
  · by_cases z : a = q
    · subst z; rw [upd_same] at e ⊢; exact e
    · rw [upd_ne z] at e ⊢; exact S.sub a u e
  · by_cases z : a = q
    · subst z; exact .inl (S.free0 h)
    · rw [upd_ne z] at e; exact S.new a u e n
/-- an object of one's own is changed -/
theorem Sx.put (S : Sx P F0 H0 F H) (w : Ow P H0 F H p o) : Sx P F0 H0 F (upd H p u) := by
  refine ⟨S.le, fun a v e => ?_, S.new, fun a v e n => ?_, fun a z => ?_⟩
  · have ne : a ≠ p := fun z => by rw [z, w.fr] at e; cases e
    rw [upd_ne ne]; exact S.sub a v e
  · have ne : a ≠ p := fun z => by
      rcases w.mine with m | m
      · rw [z, m] at e; cases e
      · exact n (z ▸ m)
    rw [upd_ne ne]; exact S.same a v e n
  · by_cases e : a = p
    · subst e; rw [upd_same]; exact fun h => nomatch h
    · rw [upd_ne e]; exact S.live a z
/-- .. is let stand for good -/
theorem Sx.freezeP (S : Sx P F0 H0 F H) (w : Ow P H0 F H p o) : Sx P F0 H0 (upd F p o) H := by
  refine ⟨S.le.trans fun a u e => ?_, fun a u e => ?_, fun a u e n => ?_, S.same, S.live⟩
  · rw [upd_ne (ne_of_none e w.fr)]; exact e
  · by_cases z : a = p
    · subst z; rw [upd_same] at e; cases e; exact w.at_
    · rw [upd_ne z] at e; exact S.sub a u e
  · by_cases z : a = p
    · subst z; exact w.mine
    · rw [upd_ne z] at e; exact S.new a u e n
theorem Sx.freeze (S : Sx P F0 H0 F H) (w : Ow P H0 F H p o) (_ : H0 p = none) : Sx P F0 H0 (upd F p o) H := S.freezeP w
theorem Ow.leF (w : Ow P H0 F H p o) : Same F (upd F p o) := fun a u e => by rw [upd_ne (ne_of_none e w.fr)]; exact e
/-- behind a call that may change P' -/
theorem Sx.call (S : Sx P F0 H0 F H) (c : Sx P' F H F' H') (h : ∀ a, P' a → P a ∨ H0 a = none) : Sx P F0 H0 F' H' := by
  refine ⟨S.le.trans c.le, c.sub, fun a u e n => ?_, fun a u e n => ?_, fun a z => ?_⟩
  · cases q : F a with
    | some o => exact S.new a o q n
    | none => exact (c.new a u e q).elim (fun z => .inl (S.free0 z)) fun z => (h a z).symm
  · refine c.same a u (S.same a u e n) fun z => ?_
    rcases h a z with z | z
    · exact n z
    · rw [z] at e; cases e
  · by_cases y : P' a
    · exact c.live a y
    · have l := S.live a z
      cases e : H a with
      | none => exact absurd e l
      | some o =>
        rw [c.same a o e y]
        exact fun h => nomatch h
theorem Sx.call0 (S : Sx P F0 H0 F H) (c : Sx P0 F H F' H') : Sx P F0 H0 F' H' := S.call c fun _ z => z.elim
theorem Sx.call1 (S : Sx P F0 H0 F H) (c : Sx (fun a => a = p) F H F' H') (w : Ow P H0 F H p o) : Sx P F0 H0 F' H' := S.call c fun a z => by
  subst z
  exact w.mine.symm
theorem Ow.call (w : Ow P H0 F H p o) (c : Sx P' F H F' H') (n : ¬ P' p) : Ow P H0 F' H' p o := by
  refine ⟨?_, c.same p o w.at_ n, w.mine⟩
  cases q : F' p with
  | none => rfl
  | some u =>
    rcases c.new p u q w.fr with z | z
    · rw [w.at_] at z
      cases z
    · exact absurd z n
theorem Ow.call0 (w : Ow P H0 F H p o) (c : Sx P0 F H F' H') : Ow P H0 F' H' p o := w.call c fun z => z
theorem Ow.ne (w : Ow P H0 F H p o) (h : H q = none) : p ≠ q := ne_of_none w.at_ h
theorem Ow.temp (w : Ow P H0 F H p o) (h : H q = none) : Ow P H0 F (upd H q u) p o := ⟨w.fr, by rw [upd_ne (w.ne h)]; exact w.at_, w.mine⟩
theorem Ow.alloc (w : Ow P H0 F H p o) (h : H q = none) : Ow P H0 (upd F q u) (upd H q u) p o := ⟨by rw [upd_ne (w.ne h)]; exact w.fr, by rw [upd_ne (w.ne h)]; exact w.at_, w.mine⟩
theorem Ow.put (w : Ow P H0 F H p o) : Ow P H0 F (upd H p u) p u := ⟨w.fr, upd_same, w.mine⟩
theorem Ow.putO {o' : HO} (w : Ow P H0 F H p o) (n : p ≠ q) : Ow P H0 F (upd H q o') p o := ⟨w.fr, by rw [upd_ne n]; exact w.at_, w.mine⟩
/-- a new object of one's own -/
theorem Sx.own (S : Sx P F0 H0 F H) (h : H q = none) : Ow P H0 F (upd H q o) q o := ⟨S.free h, upd_same, .inl (S.free0 h)⟩
/-- inside a callee's eyes: an own object handed in -/
theorem Ow.arg (w : Ow P H0 F H p o) : Ow (fun a => a = p) H F H p o := ⟨w.fr, w.at_, .inr rfl⟩
theorem Ow.back {o' : HO} (w : Ow P H0 F H p o) (z : Ow (fun a => a = p) H F' H' p o') : Ow P H0 F' H' p o' := ⟨z.fr, z.at_, w.mine⟩
end
end Gl
namespace Gl
open PySem PySem.Spec PyProof.Rows L2
/-! ## tests -/
theorem if_b {β : Type} {b : Bool} {A B : Prop} {m1 m2 : Option β} {r : β} (hm : (if b = true then m1 else m2) = some r) (h1 : b = true → m1 = some r → A) (h2 : b = false → m2 = some r → B) : if b = true then A else B := by
  cases b with
  | true => exact h1 rfl hm
  | false => exact h2 rfl hm
theorem if_j {b : Bool} {A B : Prop} (h1 : b = true → A) (h2 : b = false → B) : if b = true then A else B := by
  cases b with
  | true => exact h1 rfl
  | false => exact h2 rfl
/-- and, or: the right side is looked at alone, with whatever is wanted of it; what is known behind both is told once -/
theorem and_j {b : Bool} {u : (Bool → Hp → Prop) → Prop} {Q : Bool → Hp → Prop} {H : Hp} (J : Bool → Hp → Prop) (h1 : b = true → ∀ Q' : Bool → Hp → Prop, (∀ c H', J c H' → Q' c H') → u Q') (h2 : b = false → J false H) (k : ∀ c H', J c H' → Q c H') : if b = true then u Q else Q false H := by
  cases b with
  | true => exact h1 rfl Q k
  | false => exact k _ _ (h2 rfl)
theorem or_j {b : Bool} {u : (Bool → Hp → Prop) → Prop} {Q : Bool → Hp → Prop} {H : Hp} (J : Bool → Hp → Prop) (h1 : b = false → ∀ Q' : Bool → Hp → Prop, (∀ c H', J c H' → Q' c H') → u Q') (h2 : b = true → J true H) (k : ∀ c H', J c H' → Q c H') : if b = true then Q true H else u Q := by
  cases b with
  | true => exact k _ _ (h2 rfl)
  | false => exact h1 rfl Q k
theorem andV_j {b : Bool} {u : VK → Prop} {Q : VK} {H : Hp} (J : V → Hp → Prop) (h1 : b = true → ∀ Q' : VK, (∀ c H', J c H' → Q' c H') → u Q') (h2 : b = false → J (.bl false) H) (k : ∀ c H', J c H' → Q c H') : if b = true then u Q else Q (.bl false) H := by
  cases b with
  | true => exact h1 rfl Q k
  | false => exact k _ _ (h2 rfl)
/-- .. where the right side leaves the heap as it is -/
theorem and_p {b c : Bool} {u : (Bool → Hp → Prop) → Prop} {Q : Bool → Hp → Prop} {H : Hp} (hu : b = true → ∀ Q' : Bool → Hp → Prop, Q' c H → u Q') (k : Q (b && c) H) : if b = true then u Q else Q false H := by
  cases b with
  | true => exact hu rfl Q k
  | false => exact k
theorem or_p {b c : Bool} {u : (Bool → Hp → Prop) → Prop} {Q : Bool → Hp → Prop} {H : Hp} (hu : b = false → ∀ Q' : Bool → Hp → Prop, Q' c H → u Q') (k : Q (b || c) H) : if b = true then Q true H else u Q := by
  cases b with
  | true => exact k
  | false => exact hu rfl Q k
theorem orV_p {b c : Bool} {u : VK → Prop} {Q : VK} {H : Hp} (hu : b = false → ∀ Q' : VK, Q' (.bl c) H → u Q') (k : Q (.bl (b || c)) H) : if b = true then Q (.bl true) H else u Q := by
  cases b with
  | true => exact k
  | false => exact hu rfl Q k

/-! ## operators on plain values -/
section
variable {X : Cx}
theorem op_eqI : OpR X (compareOp .Eq) (rI0 fun i j => .bl (decide (i = j))) := opB0 fun _ _ _ _ _ _ _ h => eq_int (by rw [Bool.beq_eq_decide_eq]; exact h)
def rS0 (g : Str → Str → V) : R2 := fun x y H Q => ∃ i j, x = .str i ∧ y = .str j ∧ Q (g i j) H
theorem dec_strV {i j : Str} : decide (V.str i = V.str j) = decide (i = j) := by
  by_cases e : i = j
  · subst e; simp
  · rw [decide_eq_false e, decide_eq_false fun z => e (V.str.inj z)]
theorem dec_blV {i j : Bool} : decide (V.bl i = V.bl j) = decide (i = j) := by cases i <;> cases j <;> rfl
theorem op_eqS : OpR X (compareOp .Eq) (rS0 fun i j => .bl (decide (i = j))) := by
  intro pins s σ H x y v u Q I rx ry h
  obtain ⟨i, j, rfl, rfl, q⟩ := h
  exact op_eq pins s σ H _ _ v u Q I rx ry ⟨rfl, by rw [dec_strV]; exact q⟩
def rB0 (g : Bool → Bool → V) : R2 := fun x y H Q => ∃ i j, x = .bl i ∧ y = .bl j ∧ Q (g i j) H
theorem op_eqB : OpR X (compareOp .Eq) (rB0 fun i j => .bl (decide (i = j))) := by
  intro pins s σ H x y v u Q I rx ry h
  obtain ⟨i, j, rfl, rfl, q⟩ := h
  exact op_eq pins s σ H _ _ v u Q I rx ry ⟨rfl, by rw [dec_blV]; exact q⟩
theorem op_neB : OpR X (compareOp .NotEq) (rB0 fun i j => .bl (!decide (i = j))) := by
  intro pins s σ H x y v u Q I rx ry h
  obtain ⟨i, j, rfl, rfl, q⟩ := h
  exact op_ne pins s σ H _ _ v u Q I rx ry ⟨rfl, by rw [dec_blV]; exact q⟩
end
/-- i stands in j -/
def inS (i j : Str) : Bool := !(Builtin.Str.occurrences j i 0 j.length 1).isEmpty
def mulOk (a b : Int) : Bool := (decide (-(2 ^ 64) < a) && decide (a < 2 ^ 64)) || (decide (-(2 ^ 64) < b) && decide (b < 2 ^ 64))
theorem mulOk_of {a b : Int} (h : mulOk a b = true) : CMul a b := by
  unfold mulOk at h
  simp only [Bool.or_eq_true, Bool.and_eq_true, decide_eq_true_eq] at h
  exact h
def divOk (b : Int) : Bool := decide (0 < b) && decide (b < 1073741824)
theorem divOk_of {a b : Int} (h : divOk b = true) : CDiv a b := by
  unfold divOk at h
  simp only [Bool.and_eq_true, decide_eq_true_eq] at h
  exact h
def modOk (b : Int) : Bool := decide (0 < b)
theorem modOk_of {b : Int} (h : modOk b = true) : 0 < b := of_decide_eq_true h
def powOk (a b : Int) : Bool := decide (0 ≤ b) && (decide (b ≤ 1000000) && decide (a.natAbs < 2 ^ 64))
theorem powOk_of {a b : Int} (h : powOk a b = true) : CPow a b := by
  unfold powOk at h
  simp only [Bool.and_eq_true, decide_eq_true_eq] at h
  exact h
def catOk (a b : Str) : Bool := decide (a.length + b.length ≤ sizeLine)
theorem catOk_of {a b : Str} (h : catOk a b = true) : a.length + b.length ≤ sizeLine := of_decide_eq_true h
def fits {α : Type} (a : List α) : Bool := decide (a.length < sizeLine)
def fitsS (a : Str) : Bool := decide (a.length ≤ sizeLine)
theorem fitsS_of {a : Str} (h : fitsS a = true) : a.length ≤ sizeLine := of_decide_eq_true h
def fits2 {α : Type} (a b : List α) : Bool := decide (a.length + b.length ≤ sizeLine)
def ixS (s : Str) (i : Int) : Option Str := gd (fitsS s) ((atI s.cps.toList i).bind fun c => some ⟨#[c]⟩)
theorem ixS_some {s z : Str} {i : Int} (h : ixS s i = some z) : ∃ c, s.length ≤ sizeLine ∧ atI s.cps.toList i = some c ∧ z = ⟨#[c]⟩ := by
  obtain ⟨h1, h2⟩ := gd_some h
  obtain ⟨c, h3, h4⟩ := bd_some h2
  exact ⟨c, fitsS_of h1, h3, (Option.some.inj h4).symm⟩
/-- xs[lo:hi] -/
def cut {α : Type} (xs : List α) (lo hi : Option Int) : List α := (xs.drop (HT.sIx xs.length 0 lo)).take (HT.sIx xs.length xs.length hi - HT.sIx xs.length 0 lo)
def rng (a b : Int) : List Int := (List.range (b - a).toNat).map fun i => a + (i : Nat)
def maxI (i j : Int) : Int := if j > i then j else i
def minI (i j : Int) : Int := if j < i then j else i
def b2I (b : Bool) : Int := if b then 1 else 0
/-- the sgns of a text, one by one -/
def sgns (z : Str) : List Str := z.cps.toList.map fun c => ⟨#[c]⟩

/-! ## what is seen of rows -/
section
variable {α : Type} {A : R α} {K : PySem.W.Frag} {F H F0 H0 : Hp} {P : Addr → Prop} {v : V} {xs ys : List α} {Q : VK} {i : Int} {a : α} {p : Addr} {vs : List V}
def SeenL (A : R α) (K : PySem.W.Frag) (F H : Hp) (v : V) (xs : List α) : Prop := ∃ p vs, v = .ref p ∧ H p = some (.lst vs) ∧ Row A K F vs xs
def SeenR (A : R α) (K : PySem.W.Frag) (F H : Hp) (v : V) (xs : List α) : Prop := ∃ p vs, v = .ref p ∧ SqL K H p vs ∧ Row A K F vs xs
def SeenT (A : R α) (K : PySem.W.Frag) (F H : Hp) (v : V) (xs : List α) : Prop := ∃ p vs, v = .ref p ∧ SqT K H p vs ∧ Row A K F vs xs
def SeenQ (A : R α) (K : PySem.W.Frag) (F H : Hp) (v : V) (xs : List α) : Prop := SeenR A K F H v xs ∨ SeenT A K F H v xs
theorem SeenL.r (h : SeenL A K F H v xs) : SeenR A K F H v xs := let ⟨p, vs, h1, h2, h3⟩ := h; ⟨p, vs, h1, SqL.of h2, h3⟩
theorem Sx.l (S : Sx P F0 H0 F H) (r : (qL A).r K F v xs) : SeenL A K F H v xs := let ⟨p, vs, h1, h2, h3⟩ := r; ⟨p, vs, h1, S.sub _ _ h2, h3⟩
theorem Sx.t (S : Sx P F0 H0 F H) (r : (qT A).r K F v xs) : SeenT A K F H v xs := let ⟨p, vs, h1, h2, h3⟩ := r; ⟨p, vs, h1, same_t S.sub h2, h3⟩
theorem Sx.q (S : Sx P F0 H0 F H) (r : (qQ A).r K F v xs) : SeenQ A K F H v xs := r.elim (fun r => .inl (S.l r).r) fun r => .inr (S.t r)
theorem Ow.l (w : Ow P H0 F H p (.lst vs)) (r : Row A K F vs xs) : SeenL A K F H (.ref p) xs := ⟨p, vs, rfl, w.at_, r⟩
theorem SeenL.q (h : SeenL A K F H v xs) : SeenQ A K F H v xs := .inl h.r
theorem SeenR.q (h : SeenR A K F H v xs) : SeenQ A K F H v xs := .inl h
theorem SeenT.q (h : SeenT A K F H v xs) : SeenQ A K F H v xs := .inr h
theorem SeenQ.seq (h : SeenQ A K F H v xs) : ∃ p vs, v = .ref p ∧ (SqL K H p vs ∨ SqT K H p vs) ∧ Row A K F vs xs := by
  rcases h with ⟨p, vs, rfl, h, r⟩ | ⟨p, vs, rfl, h, r⟩
  · exact ⟨p, vs, rfl, .inl h, r⟩
  · exact ⟨p, vs, rfl, .inr h, r⟩
/-- the script -/
def qC : R (List Int) := ⟨fun K F v xs => ∃ p, v = .ref p ∧ SqL K F p (xs.map V.int), fun e ⟨p, h1, h2⟩ => ⟨p, h1, Same.seq e h2⟩⟩
theorem row_ints {K : PySem.W.Frag} {F : Hp} : ∀ xs : List Int, Row qI K F (xs.map V.int) xs
  | [] => .nil
  | _ :: xs => .cons rfl (row_ints xs)
theorem Sx.c {xs : List Int} (S : Sx P F0 H0 F H) (r : qC.r K F v xs) : SeenR qI K F H v xs := let ⟨p, h1, h2⟩ := r; ⟨p, _, h1, Same.seq S.sub h2, row_ints xs⟩
theorem row_at (r : Row A K F vs xs) (h : atI xs i = some a) : ∃ u, atI vs i = some u ∧ A.r K F u a := by
  unfold atI at h ⊢
  rw [pLen r]
  obtain ⟨j, h1, h2⟩ := bd_some h
  obtain ⟨u, h3, h4⟩ := pGet r h2
  exact ⟨u, by rw [h1]; exact h3, h4⟩
theorem row_cut (r : Row A K F vs xs) (lo hi : Option Int) : Row A K F (cutV vs lo hi) (cut xs lo hi) := by
  unfold cutV cut
  rw [pLen r]
  exact pTake _ (pDrop _ r)
theorem rd_ixL (s : SeenR A K F H v xs) (h : atI xs i = some a) (k : ∀ u, A.r K F u a → Q u H) : rIxL K v (.int i) H Q := by
  obtain ⟨p, vs, rfl, h1, r⟩ := s
  obtain ⟨u, h2, h3⟩ := row_at r h
  exact ⟨p, vs, i, u, rfl, rfl, h1, h2, k u h3⟩
theorem rd_ixT (s : SeenT A K F H v xs) (h : atI xs i = some a) (k : ∀ u, A.r K F u a → Q u H) : rIxT K v (.int i) H Q := by
  obtain ⟨p, vs, rfl, h1, r⟩ := s
  obtain ⟨u, h2, h3⟩ := row_at r h
  exact ⟨p, vs, i, u, rfl, rfl, h1, h2, k u h3⟩
theorem rd_len (s : SeenQ A K F H v xs) (k : Q (.int (xs.length : Int)) H) : ∃ p ys, [v] = [V.ref p] ∧ (SqL K H p ys ∨ SqT K H p ys) ∧ Q (.int (ys.length : Int)) H := by
  obtain ⟨p, vs, rfl, h1, r⟩ := s.seq
  exact ⟨p, vs, rfl, h1, by rw [pLen r]; exact k⟩
/-- what is wanted of a new object; of a new list, tuple with such items -/
def nK (Q : VK) (H : Hp) (o : HO) : Prop := ∀ p, H p = none → Q (.ref p) (upd H p o)
def nL (A : R α) (K : PySem.W.Frag) (F : Hp) (Q : VK) (H : Hp) (xs : List α) : Prop := ∀ p us, H p = none → Row A K F us xs → Q (.ref p) (upd H p (.lst us))
def nT (A : R α) (K : PySem.W.Frag) (F : Hp) (Q : VK) (H : Hp) (xs : List α) : Prop := ∀ p us, H p = none → Row A K F us xs → Q (.ref p) (upd H p (.tup us))
theorem rd_list (s : SeenQ A K F H v xs) (k : nL A K F Q H xs) : ∃ p ys, [v] = [V.ref p] ∧ (SqL K H p ys ∨ SqT K H p ys) ∧ ∀ l, H l = none → Q (.ref l) (upd H l (.lst ys)) := by
  obtain ⟨p, vs, rfl, h1, r⟩ := s.seq
  exact ⟨p, vs, rfl, h1, fun q hq => k q _ hq r⟩
theorem rd_app (w : Ow P H0 F H p (.lst vs)) (r : Row A K F vs xs) {y : V} (h : fits xs = true) (k : Q .non (upd H p (.lst (vs ++ [y])))) : rAppend (.ref p) [y] H Q :=
  ⟨p, vs, y, rfl, rfl, w.at_, by rw [pLen r]; exact of_decide_eq_true h, k⟩
theorem rd_extend (w : Ow P H0 F H p (.lst vs)) (r : Row A K F vs xs) {b : V} {ys : List α} (s : SeenL A K F H b ys) (h : fits2 xs ys = true) (k : ∀ us, Row A K F us ys → Q .non (upd H p (.lst (vs ++ us)))) : rExtend (.ref p) [b] H Q := by
  obtain ⟨q, us, rfl, h2, r2⟩ := s
  exact ⟨p, q, vs, us, rfl, rfl, w.at_, h2, by rw [pLen r, pLen r2]; exact of_decide_eq_true h, k us r2⟩
theorem Ow.ty (w : Ow P H0 F H p (.lst vs)) : tyV K "list" (.ref p) H := .inl ⟨rfl, vs, SqL.of w.at_⟩
end
/-! ### in -/
theorem inV_str {K : PySem.W.Frag} {F : Hp} {a : Str} : ∀ {vs : List V} {xs : List Str}, Row qS K F vs xs → inV (.str a) vs = decide (a ∈ xs) ∧ vs.all flatV = true
  | _, _, .nil => ⟨rfl, rfl⟩
  | v :: vs, x :: xs, .cons r t => by
    obtain ⟨h1, h2⟩ := inV_str (a := a) t
    cases (show v = .str x from r)
    refine ⟨?_, ?_⟩
    · show (eqV (.str x) (.str a) || inV (.str a) vs) = _
      rw [h1]
      show ((x == a) || decide (a ∈ xs)) = decide (a ∈ x :: xs)
      by_cases e : a = x
      · subst e; simp
      · have e2 : (x == a) = false := beq_eq_false_iff_ne.mpr (Ne.symm e)
        rw [e2]; simp [e]
    · show (flatV (.str x) && vs.all flatV) = true
      rw [h2]; rfl
theorem inV_int {K : PySem.W.Frag} {F : Hp} {a : Int} : ∀ {vs : List V} {xs : List Int}, Row qI K F vs xs → inV (.int a) vs = decide (a ∈ xs) ∧ vs.all flatV = true
  | _, _, .nil => ⟨rfl, rfl⟩
  | v :: vs, x :: xs, .cons r t => by
    obtain ⟨h1, h2⟩ := inV_int (a := a) t
    cases (show v = .int x from r)
    refine ⟨?_, ?_⟩
    · show (eqV (.int x) (.int a) || inV (.int a) vs) = _
      rw [h1]
      show ((x == a) || decide (a ∈ xs)) = decide (a ∈ x :: xs)
      by_cases e : a = x
      · subst e; simp
      · have e2 : (x == a) = false := beq_eq_false_iff_ne.mpr (Ne.symm e)
        rw [e2]; simp [e]
    · show (flatV (.int x) && vs.all flatV) = true
      rw [h2]; rfl
section
variable {K : PySem.W.Frag} {F H : Hp} {v : V} {Q : VK}
theorem rd_inS {xs : List Str} {a : Str} (s : SeenQ qS K F H v xs) (k : Q (.bl (decide (a ∈ xs))) H) : rIn K false (.str a) v H Q := by
  obtain ⟨p, vs, rfl, h1, r⟩ := s.seq
  obtain ⟨e1, e2⟩ := inV_str (a := a) r
  exact ⟨p, vs, rfl, h1, rfl, e2, by show Q (.bl (inV (.str a) vs)) H; rw [e1]; exact k⟩
theorem rd_niS {xs : List Str} {a : Str} (s : SeenQ qS K F H v xs) (k : Q (.bl (!decide (a ∈ xs))) H) : rIn K true (.str a) v H Q := by
  obtain ⟨p, vs, rfl, h1, r⟩ := s.seq
  obtain ⟨e1, e2⟩ := inV_str (a := a) r
  exact ⟨p, vs, rfl, h1, rfl, e2, by show Q (.bl (!inV (.str a) vs)) H; rw [e1]; exact k⟩
theorem rd_inI {xs : List Int} {a : Int} (s : SeenQ qI K F H v xs) (k : Q (.bl (decide (a ∈ xs))) H) : rIn K false (.int a) v H Q := by
  obtain ⟨p, vs, rfl, h1, r⟩ := s.seq
  obtain ⟨e1, e2⟩ := inV_int (a := a) r
  exact ⟨p, vs, rfl, h1, rfl, e2, by show Q (.bl (inV (.int a) vs)) H; rw [e1]; exact k⟩
end
/-! ### == of data -/
/-- what stands for Lean's in the library's data -/
structure Dat {α : Type} (A : R α) where
  d : α → PyData
  dp : ∀ {K : PySem.W.Frag} {F : Hp} {v : V} {a : α}, A.r K F v a → Dp K F v (d a)
  eq : ∀ a b : α, PyData.eqv (d a) (d b) = true ↔ a = b
mutual
theorem Dp.mono {K : PySem.W.Frag} {F F' : Hp} (e : Same F F') : ∀ {v : V} {d : PyData}, Dp K F v d → Dp K F' v d
  | _, _, .non => .non
  | _, _, .bl b => .bl b
  | _, _, .int i => .int i
  | _, _, .str x => .str x
  | _, _, .lst h a => .lst (Same.seq e h) (DpAll.mono e a)
  | _, _, .tup h a => .tup (same_t e h) (DpAll.mono e a)
theorem DpAll.mono {K : PySem.W.Frag} {F F' : Hp} (e : Same F F') : ∀ {vs : List V} {ds : List PyData}, DpAll K F vs ds → DpAll K F' vs ds
  | _, _, .nil => .nil
  | _, _, .cons h a => .cons (Dp.mono e h) (DpAll.mono e a)
end
def dI : Dat qI := ⟨.int, fun {K F v a} h => by cases (show v = .int a from h); exact .int a, fun a b => by simp [PyData.eqv]⟩
def dB : Dat qB := ⟨.bool, fun {K F v a} h => by cases (show v = .bl a from h); exact .bl a, fun a b => by simp [PyData.eqv]⟩
def dS : Dat qS := ⟨.str, fun {K F v a} h => by cases (show v = .str a from h); exact .str a, fun a b => by simp [PyData.eqv]⟩
theorem dpAll {α : Type} {A : R α} (D : Dat A) {K : PySem.W.Frag} {F : Hp} : ∀ {vs : List V} {xs : List α}, Row A K F vs xs → DpAll K F vs (xs.map D.d)
  | _, _, .nil => .nil
  | _, _, .cons r t => .cons (D.dp r) (dpAll D t)
theorem eqvAll_iff {α : Type} {A : R α} (D : Dat A) : ∀ xs ys : List α, PyData.eqvAll (xs.map D.d) (ys.map D.d) = true ↔ xs = ys
  | [], [] => by simp [PyData.eqvAll]
  | [], _ :: _ => by simp [PyData.eqvAll]
  | _ :: _, [] => by simp [PyData.eqvAll]
  | x :: xs, y :: ys => by
    show (PyData.eqv (D.d x) (D.d y) && PyData.eqvAll (xs.map D.d) (ys.map D.d)) = true ↔ _
    rw [Bool.and_eq_true, D.eq x y, eqvAll_iff D xs ys]
    simp
def dL {α : Type} {A : R α} (D : Dat A) : Dat (qL A) := ⟨fun xs => .list (xs.map D.d), fun {K F v a} h => by
    obtain ⟨p, vs, rfl, h2, h3⟩ := h
    exact .lst (SqL.of h2) (dpAll D h3), fun a b => eqvAll_iff D a b⟩
def dT {α : Type} {A : R α} (D : Dat A) : Dat (qT A) := ⟨fun xs => .tuple (xs.map D.d), fun {K F v a} h => by
    obtain ⟨p, vs, rfl, h2, h3⟩ := h
    exact .tup h2 (dpAll D h3), fun a b => eqvAll_iff D a b⟩
def d2 {α β : Type} {A : R α} {B : R β} (D : Dat A) (E : Dat B) : Dat (q2 A B) := ⟨fun x => .tuple [D.d x.1, E.d x.2], fun {K F v a} h => by
    obtain ⟨p, u, w, rfl, h2, h3, h4⟩ := h
    exact .tup h2 (.cons (D.dp h3) (.cons (E.dp h4) .nil)), fun a b => by
    show (PyData.eqv (D.d a.1) (D.d b.1) && (PyData.eqv (E.d a.2) (E.d b.2) && true)) = true ↔ _
    rw [Bool.and_eq_true, Bool.and_eq_true, D.eq, E.eq]
    obtain ⟨a1, a2⟩ := a
    obtain ⟨b1, b2⟩ := b
    simp⟩
def shp {α : Type} {A : R α} (D : Dat A) (a : α) : Bool := SeqAt.shaped (D.d a)
section
variable {α : Type} {A : R α} {K : PySem.W.Frag} {F H F0 H0 : Hp} {P : Addr → Prop} {v w : V} {a b : α} {Q : VK} [DecidableEq α]
theorem SeenR.dp {α : Type} {A : R α} {K : PySem.W.Frag} {F H : Hp} {v : V} {xs : List α} (S : Same F H) (D : Dat A) (h : SeenR A K F H v xs) : Dp K H v (.list (xs.map D.d)) := let ⟨p, vs, h1, h2, h3⟩ := h; by subst h1; exact .lst h2 (dpAll D (Row.mono S h3))
theorem eqv_dec (D : Dat A) (a b : α) : PyData.eqv (D.d a) (D.d b) = decide (a = b) := by
  by_cases e : a = b
  · rw [(D.eq a b).mpr e, decide_eq_true e]
  · rw [decide_eq_false e]
    cases h : PyData.eqv (D.d a) (D.d b) with
    | false => rfl
    | true => exact absurd ((D.eq a b).mp h) e
/-- what is seen of a datum -/
def SeenD (D : Dat A) (K : PySem.W.Frag) (H : Hp) (v : V) (a : α) : Prop := Dp K H v (D.d a)
theorem Sx.d (S : Sx P F0 H0 F H) (D : Dat A) (r : A.r K F v a) : SeenD D K H v a := Dp.mono S.sub (D.dp r)
theorem rd_eqD {D : Dat A} (s : SeenD D K H v a) (t : SeenD D K H w b) (h1 : shp D a = true) (h2 : shp D b = true) (k : Q (.bl (decide (a = b))) H) : rEqD K v w H Q :=
  ⟨_, _, s, t, h1, h2, by rw [eqv_dec]; exact k⟩
theorem rd_neD {D : Dat A} (s : SeenD D K H v a) (t : SeenD D K H w b) (h1 : shp D a = true) (h2 : shp D b = true) (k : Q (.bl (!decide (a = b))) H) : rNeD K v w H Q :=
  ⟨_, _, s, t, h1, h2, by rw [eqv_dec]; exact k⟩
end
section
variable {α : Type} {A : R α} {K : PySem.W.Frag} {F H F0 H0 : Hp} {P : Addr → Prop} {p : Addr} {vs : List V} {xs : List α}
theorem Sx.cd {v : V} {xs : List Int} (S : Sx P F0 H0 F H) (r : qC.r K F v xs) : SeenD (dL dI) K H v xs := SeenR.dp S.sub dI (S.c r)
theorem Ow.d (w : Ow P H0 F H p (.lst vs)) (S : Sx P F0 H0 F H) (D : Dat A) (r : Row A K F vs xs) : SeenD (dL D) K H (.ref p) xs := .lst (SqL.of w.at_) (dpAll D (Row.mono S.sub r))
end
end Gl
namespace Gl
open PySem PySem.Spec PyProof.Rows L2
/-! ## loops -/
def loopS {α S : Type} (f : α → S → Option S) : List α → S → Option S
  | [], s => some s
  | x :: xs, s => (f x s).bind fun s' => loopS f xs s'
def loopC {α S ρ : Type} (f : α → S → Option (Ctl S ρ)) : List α → S → Option (Ctl S ρ)
  | [], s => some (.nx s)
  | x :: xs, s => (f x s).bind fun c => match c with
    | .nx s' => loopC f xs s'
    | .bk s' => some (.nx s')
    | .rt r => some (.rt r)
/-- behind a loop that may return -/
def aft {S ρ : Type} (c : Ctl S ρ) (k : S → Option ρ) : Option ρ := match c with
  | .nx s => k s
  | .bk s => k s
  | .rt r => some r
/-- what an iterator hands out, one behind another -/
structure Feeds (J : It) (n : Nat) (G : Hp → Prop) (it : Nat → V → Prop) : Prop where
  go : ∀ i H, i < n → G H → J.go i H
  stop : ∀ H, G H → J.stop n H
  yld : ∀ i H x H', i < n → G H → J.yld i H x H' → H' = H ∧ it i x
theorem feedsL {K : PySem.W.Frag} {a : Addr} {vs : List V} : Feeds (Itl K a) vs.length (fun H => SqL K H a vs) (fun i x => vs[i]? = some x) :=
  ⟨fun i H h q => ⟨vs, vs[i], q, by simp [h]⟩, fun H q => ⟨vs, q, Nat.le_refl _⟩, fun i H x H' h q y => ⟨y.1, y.2 vs q⟩⟩
theorem feedsT {K : PySem.W.Frag} {a : Addr} {vs : List V} : Feeds (Itt K a) vs.length (fun H => SqT K H a vs) (fun i x => vs[i]? = some x) :=
  ⟨fun i H h q => ⟨vs, vs[i], q, by simp [h]⟩, fun H q => ⟨vs, q, Nat.le_refl _⟩, fun i H x H' h q y => ⟨y.1, y.2 vs q⟩⟩
theorem feedsS {z : Str} : Feeds (Its z) z.cps.size (fun _ => True) (fun i x => ∃ c, z.cps[i]? = some c ∧ x = .str ⟨#[c]⟩) :=
  ⟨fun i H h _ => h, fun H _ => Nat.le_refl _, fun i H x H' h _ y => y⟩
/-- the items are typed -/
structure Typed {α : Type} (A : R α) (K : PySem.W.Frag) (F : Hp) (n : Nat) (it : Nat → V → Prop) (xs : List α) : Prop where
  len : xs.length = n
  at_ : ∀ i x, it i x → ∃ a, xs[i]? = some a ∧ A.r K F x a
theorem typedRow {α : Type} {A : R α} {K : PySem.W.Frag} {F : Hp} {vs : List V} {xs : List α} (r : Row A K F vs xs) : Typed A K F vs.length (fun i x => vs[i]? = some x) xs :=
  ⟨(pLen r).symm, fun i x h => pGetL r h⟩
theorem typedR {K : PySem.W.Frag} {F : Hp} {a b : Int} : Typed qI K F (b - a).toNat (fun i x => i < (b - a).toNat ∧ x = .int (a + (i : Nat))) (rng a b) :=
  ⟨by unfold rng; simp, fun i x h => ⟨a + (i : Nat), by unfold rng; simp [h.1], h.2⟩⟩
theorem feedsRg {a b : Int} : Feeds (Itr a (b - a).toNat) (b - a).toNat (fun _ => True) (fun i x => i < (b - a).toNat ∧ x = .int (a + (i : Nat))) :=
  ⟨fun i H h _ => h, fun H _ => Nat.le_refl _, fun i H x H' h _ y => ⟨y.1, h, y.2⟩⟩
theorem typedS {K : PySem.W.Frag} {F : Hp} {z : Str} : Typed qS K F z.cps.size (fun i x => ∃ c, z.cps[i]? = some c ∧ x = .str ⟨#[c]⟩) (sgns z) :=
  ⟨by unfold sgns; simp, fun i x h => by
    obtain ⟨c, h1, h2⟩ := h
    exact ⟨⟨#[c]⟩, by unfold sgns; simp [h1], h2⟩⟩

abbrev ForG (J : It) (g : TG) (tb : TS) (D : Ends) (σ : L2.St) (H : Hp) : Prop :=
  ∃ W : Nat → Nat → L2.St → Hp → Prop, (∃ m, W 0 m σ H) ∧ ∀ i m σ H, W i m σ H →
    (J.stop i H ∧ D.nx σ H) ∨ (J.go i H ∧ ∃ N : L2.St → Hp → Prop, (∀ σ' H', N σ' H' → ∃ m', m' < m ∧ W (i + 1) m' σ' H') ∧ ∀ x H', J.yld i H x H' → g x σ H' fun σ2 H2 => tb { D with nx := N, ct := N, bk := D.nx } σ2 H2)
section
variable {J : It} {n : Nat} {G : Hp → Prop} {it : Nat → V → Prop} {α S ρ : Type} {A : R α} {K : PySem.W.Frag} {F : Hp} {xs : List α} {g : TG} {tb : TS} {σ : L2.St} {H : Hp} {Nx Bx Cx : L2.St → Hp → Prop} {Rx : VK}
theorem loopS_at {f : α → S → Option S} {i : Nat} {a : α} {s s1 : S} (h : loopS f (xs.drop i) s = some s1) (ha : xs[i]? = some a) : ∃ s', f a s = some s' ∧ loopS f (xs.drop (i + 1)) s' = some s1 := by
  have hi : i < xs.length := (List.getElem?_eq_some_iff.mp ha).1
  have e : xs.drop i = a :: xs.drop (i + 1) := by
    rw [List.drop_eq_getElem_cons hi]
    rw [(List.getElem?_eq_some_iff.mp ha).2]
  rw [e] at h
  exact bd_some h
theorem loopC_at {f : α → S → Option (Ctl S ρ)} {i : Nat} {a : α} {s : S} {c1 : Ctl S ρ} (h : loopC f (xs.drop i) s = some c1) (ha : xs[i]? = some a) : ∃ c, f a s = some c ∧ (match c with
    | .nx s' => loopC f (xs.drop (i + 1)) s'
    | .bk s' => some (.nx s')
    | .rt r => some (.rt r)) = some c1 := by
  have hi : i < xs.length := (List.getElem?_eq_some_iff.mp ha).1
  have e : xs.drop i = a :: xs.drop (i + 1) := by
    rw [List.drop_eq_getElem_cons hi]
    rw [(List.getElem?_eq_some_iff.mp ha).2]
  rw [e] at h
  exact bd_some h
/-- a loop that goes to its end -/
theorem rd_forS (Fd : Feeds J n G it) (Ty : Typed A K F n it xs) {f : α → S → Option S} {s0 s1 : S} (hm : loopS f xs s0 = some s1) (Iv : S → L2.St → Hp → Prop) (hG : ∀ s σ H, Iv s σ H → G H) (h0 : Iv s0 σ H)
    (turn : ∀ (a : α) (x : V) (s s' : S) (σ : L2.St) (H : Hp), A.r K F x a → Iv s σ H → f a s = some s' → g x σ H fun σ2 H2 => tb ⟨Iv s', Rx, Nx, Iv s'⟩ σ2 H2)
    (done : ∀ σ H, Iv s1 σ H → Nx σ H) : ForG J g tb ⟨Nx, Rx, Bx, Cx⟩ σ H := by
  refine ⟨fun i m σ H => m = n - i ∧ i ≤ n ∧ ∃ s, Iv s σ H ∧ loopS f (xs.drop i) s = some s1, ⟨n, by simp, Nat.zero_le _, s0, h0, hm⟩, ?_⟩
  rintro i m σ H ⟨rfl, hi, s, iv, hl⟩
  by_cases hlt : i < n
  · obtain ⟨a, ha⟩ : ∃ a, xs[i]? = some a := ⟨xs[i]'(by rw [Ty.len]; exact hlt), by simp [Ty.len, hlt]⟩
    obtain ⟨s', e1, e2⟩ := loopS_at hl ha
    refine .inr ⟨Fd.go i H hlt (hG s σ H iv), Iv s', fun σ' H' p' => ⟨n - (i + 1), by omega, rfl, hlt, s', p', e2⟩, fun x H' y => ?_⟩
    obtain ⟨rfl, hx⟩ := Fd.yld i H x H' hlt (hG s σ H iv) y
    obtain ⟨a', ha', r⟩ := Ty.at_ i x hx
    rw [ha] at ha'
    cases ha'
    exact turn a x s s' σ H' r iv e1
  · have e : i = n := by omega
    subst e
    rw [← Ty.len, List.drop_length] at hl
    cases hl
    exact .inl ⟨Fd.stop H (hG _ σ H iv), done σ H iv⟩
/-- a loop that may break off or return -/
theorem rd_forC (Fd : Feeds J n G it) (Ty : Typed A K F n it xs) {f : α → S → Option (Ctl S ρ)} {s0 : S} {c1 : Ctl S ρ} (hm : loopC f xs s0 = some c1) (Iv : S → L2.St → Hp → Prop) (hG : ∀ s σ H, Iv s σ H → G H) (h0 : Iv s0 σ H)
    (turn : ∀ (a : α) (x : V) (s : S) (c : Ctl S ρ) (σ : L2.St) (H : Hp), A.r K F x a → Iv s σ H → f a s = some c → (∀ s' σ' H', c = .bk s' → Iv s' σ' H' → Nx σ' H') → (∀ r, c = .rt r → c1 = .rt r) →
      g x σ H fun σ2 H2 => tb ⟨fun σ' H' => ∃ s', c = .nx s' ∧ Iv s' σ' H', Rx, Nx, fun σ' H' => ∃ s', c = .nx s' ∧ Iv s' σ' H'⟩ σ2 H2)
    (done : ∀ s σ H, c1 = .nx s → Iv s σ H → Nx σ H) : ForG J g tb ⟨Nx, Rx, Bx, Cx⟩ σ H := by
  refine ⟨fun i m σ H => m = n - i ∧ i ≤ n ∧ ∃ s, Iv s σ H ∧ loopC f (xs.drop i) s = some c1, ⟨n, by simp, Nat.zero_le _, s0, h0, hm⟩, ?_⟩
  rintro i m σ H ⟨rfl, hi, s, iv, hl⟩
  by_cases hlt : i < n
  · obtain ⟨a, ha⟩ : ∃ a, xs[i]? = some a := ⟨xs[i]'(by rw [Ty.len]; exact hlt), by simp [Ty.len, hlt]⟩
    obtain ⟨c, e1, e2⟩ := loopC_at hl ha
    refine .inr ⟨Fd.go i H hlt (hG s σ H iv), fun σ' H' => ∃ s', c = .nx s' ∧ Iv s' σ' H', fun σ' H' p' => ?_, fun x H' y => ?_⟩
    · obtain ⟨s', rfl, p'⟩ := p'
      exact ⟨n - (i + 1), by omega, rfl, hlt, s', p', e2⟩
    · obtain ⟨rfl, hx⟩ := Fd.yld i H x H' hlt (hG s σ H iv) y
      obtain ⟨a', ha', r⟩ := Ty.at_ i x hx
      rw [ha] at ha'
      cases ha'
      refine turn a x s c σ H' r iv e1 (fun s' σ' H' e p => ?_) fun r e => ?_
      · subst e
        exact done s' σ' H' (Option.some.inj e2).symm p
      · subst e
        exact (Option.some.inj e2).symm
  · have e : i = n := by omega
    subst e
    rw [← Ty.len, List.drop_length] at hl
    exact .inl ⟨Fd.stop H (hG _ σ H iv), done s σ H (Option.some.inj hl).symm iv⟩
end
/-! ## comprehensions -/
def fitsE {α : Type} (a : List α) : Bool := decide (a.length ≤ sizeLine)
/-- f: an item's value, if it is kept, and the state behind it -/
def comp {α β S : Type} (f : α → S → Option (Option β × S)) : List α → S → Option (List β × S)
  | [], s => some ([], s)
  | x :: xs, s => (f x s).bind fun o => (comp f xs o.2).bind fun r => some (match o.1 with
    | some y => (y :: r.1, r.2)
    | none => r)
/-- what a comprehension's loop asks -/
abbrev LcG (J : It) (g : TG) (tt : TT) (te : TE) (vs : List Nat) (σ : L2.St) (D : Addr) (Q : VK) (H1 : Hp) : Prop :=
  ∃ W : Nat → Nat → Hp → Prop, (∃ m, W 0 m (upd H1 D (.lst []))) ∧ ∀ i m H, W i m H →
  (J.stop i H ∧ Q (.ref D) H) ∨ (J.go i H ∧ ∃ Nx : Hp → Prop, (∀ H', Nx H' → ∃ m', m' < m ∧ W (i + 1) m' H') ∧ ∀ x H', J.yld i H x H' → g x (wipe σ vs) H' fun σ2 H2 => wipe σ2 vs = wipe σ vs ∧ tt σ2 H2 fun b H3 =>
    if b = true then te σ2 H3 fun y H4 => ∃ acc, H4 D = some (.lst acc) ∧ acc.length < sizeLine ∧ Nx (upd H4 D (.lst (acc ++ [y]))) else Nx H3)
section
variable {J : It} {n : Nat} {G : Hp → Prop} {it : Nat → V → Prop} {α β S : Type} {A : R α} {B : R β} {K : PySem.W.Frag} {F1 H1 : Hp} {xs : List α} {g : TG} {tt : TT} {te : TE} {vs : List Nat} {σ : L2.St} {Q : VK}
theorem comp_at {f : α → S → Option (Option β × S)} {i : Nat} {a : α} {s : S} {r : List β × S} (h : comp f (xs.drop i) s = some r) (ha : xs[i]? = some a) : ∃ o r', f a s = some o ∧ comp f (xs.drop (i + 1)) o.2 = some r' ∧ r = (match o.1 with
    | some y => (y :: r'.1, r'.2)
    | none => r') := by
  have hi : i < xs.length := (List.getElem?_eq_some_iff.mp ha).1
  have e : xs.drop i = a :: xs.drop (i + 1) := by
    rw [List.drop_eq_getElem_cons hi]
    rw [(List.getElem?_eq_some_iff.mp ha).2]
  rw [e] at h
  obtain ⟨o, e1, h2⟩ := bd_some h
  obtain ⟨r', e2, h3⟩ := bd_some h2
  exact ⟨o, r', e1, e2, (Option.some.inj h3).symm⟩
/-- c: the step from the comprehension's start (F1, H1); Ex: what holds of the objects that it changes (Pc) -/
theorem rd_comp (Fd : Feeds J n G it) (Ty : Typed A K F1 n it xs) {f : α → S → Option (Option β × S)} {s0 : S} {r : List β × S} (hm : comp f xs s0 = some r) (hz : fitsE xs = true) {Pc : Addr → Prop} (hlv : ∀ a, Pc a → H1 a ≠ none) (hsub : Same F1 H1) (Ex : S → Hp → Hp → Prop)
    (hG : ∀ s F H, Sx Pc F1 H1 F H → Ex s F H → G H) (h0 : Ex s0 F1 H1) (hEx : ∀ s F H q o, Ex s F H → H1 q = none → H q = none → Ex s F (upd H q o)) (hEp : ∀ s F H q u o, Ex s F H → H1 q = none → H q = some u → Ex s F (upd H q o))
    (turn : ∀ (a : α) (x : V) (s : S) (o : Option β × S) (F H : Hp) (D : Addr) (acc : List V), A.r K F1 x a → Sx Pc F1 H1 F H → Ex s F H → Ow Pc H1 F H D (.lst acc) → H1 D = none → f a s = some o →
      ∀ (E : Hp → Prop) (N : V → Hp → Prop), (∀ y b F' H', o.1 = some b → Sx Pc F H F' H' → B.r K F' y b → Ex o.2 F' H' → N y H') → (∀ F' H', o.1 = none → Sx Pc F H F' H' → Ex o.2 F' H' → E H') →
      g x (wipe σ vs) H fun σ2 H2 => wipe σ2 vs = wipe σ vs ∧ tt σ2 H2 fun b H3 => if b = true then te σ2 H3 N else E H3)
    (done : ∀ D us F H, H1 D = none → Sx Pc F1 H1 F H → Ex r.2 F H → Ow Pc H1 F H D (.lst us) → Row B K F us r.1 → Q (.ref D) H) : ∀ D, H1 D = none → LcG J g tt te vs σ D Q H1 := by
  intro D hD
  refine ⟨fun i m H => m = n - i ∧ i ≤ n ∧ ∃ s F acc ys r', Sx Pc F1 H1 F H ∧ Ex s F H ∧ Ow Pc H1 F H D (.lst acc) ∧ Row B K F acc ys ∧ acc.length ≤ i ∧ comp f (xs.drop i) s = some r' ∧ r = (ys ++ r'.1, r'.2), ⟨n, by simp, Nat.zero_le _, s0, F1, [], [], r, ?_, ?_, ?_, .nil, Nat.le_refl _, hm, rfl⟩, ?_⟩
  · exact (Sx.refl hsub hlv).temp hD
  · exact hEx _ _ _ _ _ h0 hD hD
  · exact (Sx.refl hsub hlv).own hD
  rintro i m H ⟨rfl, hi, s, F, acc, ys, r', S, ex, w, row, hal, hl, hr⟩
  by_cases hlt : i < n
  · obtain ⟨a, ha⟩ : ∃ a, xs[i]? = some a := ⟨xs[i]'(by rw [Ty.len]; exact hlt), by simp [Ty.len, hlt]⟩
    obtain ⟨o, r2, e1, e2, e3⟩ := comp_at hl ha
    refine .inr ⟨Fd.go i H hlt (hG s F H S ex), fun H' => ∃ s F acc ys r', Sx Pc F1 H1 F H' ∧ Ex s F H' ∧ Ow Pc H1 F H' D (.lst acc) ∧ Row B K F acc ys ∧ acc.length ≤ i + 1 ∧ comp f (xs.drop (i + 1)) s = some r' ∧ r = (ys ++ r'.1, r'.2), fun H' p' => ⟨n - (i + 1), by omega, rfl, hlt, p'⟩, fun x H' y => ?_⟩
    obtain ⟨rfl, hx⟩ := Fd.yld i H x H' hlt (hG s F H S ex) y
    obtain ⟨a', ha', ra⟩ := Ty.at_ i x hx
    rw [ha] at ha'
    cases ha'
    have nD : ∀ F' H'', Sx Pc F H' F' H'' → Ow Pc H1 F' H'' D (.lst acc) := fun F' H'' c => w.call c fun z => hlv D z hD
    have hsz : acc.length < sizeLine := by
      have := of_decide_eq_true hz
      rw [Ty.len] at this
      omega
    refine turn a x s o F H' D acc ra S ex w hD e1 _ _ (fun y b F' H'' ho c rb ex' => ?_) fun F' H'' ho c ex' => ?_
    · have w' := nD F' H'' c
      have S' : Sx Pc F1 H1 F' H'' := S.call c fun a z => .inl z
      refine ⟨acc, w'.at_, hsz, o.2, F', acc ++ [y], ys ++ [b], r2, S'.put w', hEp _ _ _ _ _ _ ex' hD w'.at_, w'.put, (Row.mono c.le row).snoc rb, by simp; omega, e2, ?_⟩
      rw [hr, e3, ho]
      simp
    · have w' := nD F' H'' c
      have S' : Sx Pc F1 H1 F' H'' := S.call c fun a z => .inl z
      refine ⟨o.2, F', acc, ys, r2, S', ex', w', Row.mono c.le row, by omega, e2, ?_⟩
      rw [hr, e3, ho]
  · have e : i = n := by omega
    subst e
    rw [← Ty.len, List.drop_length] at hl
    cases hl
    refine .inl ⟨Fd.stop H (hG _ F H S ex), ?_⟩
    rw [hr] at done
    exact done D acc F H hD S ex w (by simpa using row)
end
/-! ## steps: what is new behind each is told by names -/
section
variable {P : Addr → Prop} {F0 H0 F H : Hp} {Q : VK} {α : Type} {A : R α} {K : PySem.W.Frag}
/-- a new object, of one's own -/
theorem al {o : HO} (S : Sx P F0 H0 F H) (k : ∀ p H', H p = none → Sx P0 F H F H' → Ow P H0 F H' p o → Q (.ref p) H') : nK Q H o :=
  fun p hp => k p _ hp ((Sx.refl0 S.sub).temp hp) (S.own hp)
/-- a new object that stands for good -/
theorem alF {o : HO} (S : Sx P F0 H0 F H) (k : ∀ p F' H', Sx P0 F H F' H' → F' p = some o → Q (.ref p) H') : nK Q H o :=
  fun p hp => k p _ _ ((Sx.refl0 S.sub).alloc hp) upd_same
theorem alT {vs : List V} {xs : List α} (S : Sx P F0 H0 F H) (r : Row A K F vs xs) (k : ∀ v F' H', Sx P0 F H F' H' → (qT A).r K F' v xs → Q v H') : nK Q H (.tup vs) :=
  alF S fun p F' H' c h => k _ F' H' c ⟨p, vs, rfl, .inl (.inl h), Row.mono c.le r⟩
theorem alL {vs : List V} {xs : List α} (S : Sx P F0 H0 F H) (r : Row A K F vs xs) (k : ∀ v F' H', Sx P0 F H F' H' → (qL A).r K F' v xs → Q v H') : nK Q H (.lst vs) :=
  alF S fun p F' H' c h => k _ F' H' c ⟨p, vs, rfl, h, Row.mono c.le r⟩
/-- the same where the row is handed on -/
theorem alL' {xs : List α} (S : Sx P F0 H0 F H) (k : ∀ v F' H', Sx P0 F H F' H' → (qL A).r K F' v xs → Q v H') : nL A K F Q H xs :=
  fun p us hp r => alL S r k p hp
theorem alT' {xs : List α} (S : Sx P F0 H0 F H) (k : ∀ v F' H', Sx P0 F H F' H' → (qT A).r K F' v xs → Q v H') : nT A K F Q H xs :=
  fun p us hp r => alT S r k p hp
theorem alO' {xs : List α} (S : Sx P F0 H0 F H) (k : ∀ p us H', H p = none → Sx P0 F H F H' → Ow P H0 F H' p (.lst us) → Row A K F us xs → Q (.ref p) H') : nL A K F Q H xs :=
  fun p us hp r => k p us _ hp ((Sx.refl0 S.sub).temp hp) (S.own hp) r
variable {p : Addr} {vs : List V} {xs : List α}
theorem ap (S : Sx P F0 H0 F H) (w : Ow P H0 F H p (.lst vs)) (r : Row A K F vs xs) {y : V} (h : fits xs = true) (k : ∀ H', Sx (fun a => a = p) F H F H' → Ow P H0 F H' p (.lst (vs ++ [y])) → Q .non H') : rAppend (.ref p) [y] H Q :=
  rd_app w r h (k _ ((Sx.refl S.sub fun a z => by rw [z, w.at_]; exact fun h => nomatch h).put w.arg) w.put)
theorem ex' (S : Sx P F0 H0 F H) (w : Ow P H0 F H p (.lst vs)) (r : Row A K F vs xs) {b : V} {ys : List α} (s : SeenL A K F H b ys) (h : fits2 xs ys = true) (k : ∀ us H', Sx (fun a => a = p) F H F H' → Ow P H0 F H' p (.lst (vs ++ us)) → Row A K F (vs ++ us) (xs ++ ys) → Q .non H') : rExtend (.ref p) [b] H Q :=
  rd_extend w r s h fun us r2 => k us _ ((Sx.refl S.sub fun a z => by rw [z, w.at_]; exact fun h => nomatch h).put w.arg) w.put (pApp r r2)
/-- an own list is let stand for good -/
theorem fz (S : Sx P F0 H0 F H) (w : Ow P H0 F H p (.lst vs)) (h0 : H0 p = none) (r : Row A K F vs xs) : ∃ F', Sx P F0 H0 F' H ∧ Same F F' ∧ (qL A).r K F' (.ref p) xs ∧ F' p ≠ none ∧ ∀ q, q ≠ p → F' q = F q :=
  ⟨upd F p (.lst vs), S.freeze w h0, w.leF, ⟨p, vs, rfl, upd_same, Row.mono w.leF r⟩, by (rw [upd_same]; exact (fun h => nomatch h)), fun q hq => upd_ne hq⟩
theorem Ow.fzO {F' : Hp} {o : HO} {q : Addr} (w : Ow P H0 F H q o) (n : q ≠ p) (e : ∀ q, q ≠ p → F' q = F q) : Ow P H0 F' H q o := ⟨by rw [e q n]; exact w.fr, w.at_, w.mine⟩
end
end Gl
namespace Gl
open PySem PySem.Spec PyProof.Rows L2
/-! ## defs by names -/
def fdDefault : FuncData := PySem.W.fnOf "" "" { posonlyargs := [], args := [], vararg := none, kwonlyargs := [], kw_defaults := [], kwarg := none, defaults := [] } [] { kind := .function, names := [], isGenerator := false, isCoroutine := false } .none .none .none .none none .none .none
def fdOf (K : PySem.W.Frag) (p : Str × Option Str) : FuncData := match K.lookup (He.fAd K p) with
  | some ⟨_, _, .func fd, _⟩ => fd
  | _ => fdDefault
abbrev FnD' (K : PySem.W.Frag) (p : Str × Option Str) (x q : Str) (st : Stmt) : Prop := FunD K x q (defArgs st) (defBody st) (defScope st) [] [] (He.fAd K p) (fdOf K p)
theorem fdOf_eq {K : PySem.W.Frag} {p : Str × Option Str} {x q : Str} {ps : Arguments} {body : List Stmt} {sc : Scope} {dvs : List V} {kws : List (Str × V)} {fd : FuncData} (F : FunD K x q ps body sc dvs kws (He.fAd K p) fd) : fd = fdOf K p := by
  obtain ⟨oc, od, dV, kV, doc, pm, an, cdv, ct, osl, e, lk, _⟩ := F.ex
  unfold fdOf
  rw [lk]
theorem fd_of {fa : List He.Fa} {fn : List He.DefD} {K : PySem.W.Frag} (c : He.SaysD fa fn K) (i : Nat) {d : He.DefD} (h : fn[i]? = some d := by rfl) : FunD K d.name d.qual d.params d.body d.scope (d.dvs K) (d.kws K) (He.fAd K d.at_) (fdOf K d.at_) := by
  obtain ⟨fd, F⟩ := c.def_ i h
  have e := fdOf_eq F
  subst e
  exact F
/-! ## a list of two ints that is drawn from -/
section
variable {P : Addr → Prop} {F0 H0 F H : Hp} {Q : VK} {K : PySem.W.Frag} {p : Addr} {a b c : V}
theorem pool0 (w : Ow P H0 F H p (.lst [a, b])) (k : Q a H) : rIxL K (.ref p) (.int 0) H Q := ⟨p, [a, b], 0, a, rfl, rfl, SqL.of w.at_, rfl, k⟩
theorem pool1 (w : Ow P H0 F H p (.lst [a, b])) (k : Q b H) : rIxL K (.ref p) (.int 1) H Q := ⟨p, [a, b], 1, b, rfl, rfl, SqL.of w.at_, rfl, k⟩
theorem putS (S : Sx P F0 H0 F H) {o u : HO} (w : Ow P H0 F H p o) : Sx (fun a => a = p) F H F (upd H p u) := (Sx.refl S.sub fun a z => by rw [z, w.at_]; exact fun h => nomatch h).put w.arg
theorem pset0 {R : Hp → Prop} (S : Sx P F0 H0 F H) (w : Ow P H0 F H p (.lst [a, b])) (k : ∀ H', Sx (fun a => a = p) F H F H' → Ow P H0 F H' p (.lst [c, b]) → R H') : rSetL (.ref p) (.int 0) c H R := ⟨p, [a, b], 0, 0, rfl, rfl, w.at_, rfl, k _ (putS S w) w.put⟩
theorem pset1 {R : Hp → Prop} (S : Sx P F0 H0 F H) (w : Ow P H0 F H p (.lst [a, b])) (k : ∀ H', Sx (fun a => a = p) F H F H' → Ow P H0 F H' p (.lst [a, c]) → R H') : rSetL (.ref p) (.int 1) c H R := ⟨p, [a, b], 1, 1, rfl, rfl, w.at_, rfl, k _ (putS S w) w.put⟩
end
end Gl
namespace Gl
open PySem PySem.Spec PyProof.Rows L2
/-! ## readings, construct by construct -/
section
variable {σ : L2.St} {H : Hp} {Q : VK} {v : V} {i j : Int} {ta tb tc te : TE} {t u : TT} {r : R2} {D : Ends} {tr : TA} {K : PySem.W.Frag} {b : Bool}
theorem rd_v {i : Nat} (h : σ[i]? = some (some v)) (k : Q v H) : tVar i σ H Q := ⟨v, h, k⟩
theorem rd_c (k : Q v H) : tC v σ H Q := k
theorem rd_op (k : ta σ H fun x H1 => tb σ H1 fun y H2 => r x y H2 Q) : tOp r ta tb σ H Q := k
theorem rd_un {r : V → Hp → VK → Prop} (k : ta σ H fun x H1 => r x H1 Q) : tUn r ta σ H Q := k
theorem rd_I0 {g : Int → Int → V} (k : Q (g i j) H) : rI0 g (.int i) (.int j) H Q := ⟨i, j, rfl, rfl, k⟩
theorem rd_I {C : Int → Int → Prop} {g : Int → Int → V} (c : C i j) (k : Q (g i j) H) : rI C g (.int i) (.int j) H Q := ⟨i, j, rfl, rfl, c, k⟩
theorem rd_U {g : Int → V} (k : Q (g i) H) : rU g (.int i) H Q := ⟨i, rfl, k⟩
theorem rd_S0 {g : Str → Str → V} {x y : Str} (k : Q (g x y) H) : rS0 g (.str x) (.str y) H Q := ⟨x, y, rfl, rfl, k⟩
theorem rd_B0 {g : Bool → Bool → V} {x y : Bool} (k : Q (g x y) H) : rB0 g (.bl x) (.bl y) H Q := ⟨x, y, rfl, rfl, k⟩
def rCatS : R2 := fun x y H Q => ∃ i j, x = .str i ∧ y = .str j ∧ i.length + j.length ≤ sizeLine ∧ Q (.str (i ++ j)) H
theorem op_catS {X : Cx} : OpR X (binaryOp .Add) rCatS := op_add_str
theorem rd_catS {x y : Str} (h : catOk x y = true) (k : Q (.str (x ++ y)) H) : rCatS (.str x) (.str y) H Q := ⟨x, y, rfl, rfl, catOk_of h, k⟩
def rNiS : R2 := fun x y H Q => ∃ i j, x = .str i ∧ y = .str j ∧ Q (.bl (!inS i j)) H
theorem op_niS {X : Cx} : OpR X (compareOp .NotIn) rNiS := op_notin_str
theorem rd_niSS {x y : Str} (k : Q (.bl (!inS x y)) H) : rNiS (.str x) (.str y) H Q := ⟨x, y, rfl, rfl, k⟩
theorem rd_ixS {x z : Str} (h : ixS x i = some z) (k : Q (.str z) H) : rIxS (.str x) (.int i) H Q := by
  obtain ⟨c, h1, h2, rfl⟩ := ixS_some h
  exact ⟨x, i, c, rfl, rfl, h1, h2, k⟩
/-! tests -/
variable {QB : Bool → Hp → Prop}
/-- what is wanted of a truth -/
def bK (QB : Bool → Hp → Prop) : VK := fun x H => ∃ k, x = .bl k ∧ QB k H
theorem rd_test (k : te σ H (bK QB)) : tTest te σ H QB := k
theorem rd_tB (k : te σ H (bK QB)) : tB te σ H QB := k
theorem rd_b (k : QB b H) : bK QB (.bl b) H := ⟨b, rfl, k⟩
theorem rd_and (k : t σ H fun c H1 => if c = true then u σ H1 QB else QB false H1) : tAnd t u σ H QB := k
theorem rd_or (k : t σ H fun c H1 => if c = true then QB true H1 else u σ H1 QB) : tOr t u σ H QB := k
theorem rd_not (k : t σ H fun c H1 => QB (!c) H1) : tNot t σ H QB := k
theorem rd_andV (k : ta σ H (bK fun c H1 => if c = true then tb σ H1 Q else Q (.bl false) H1)) : tAndV ta tb σ H Q := k
theorem rd_orV (k : ta σ H (bK fun c H1 => if c = true then Q (.bl true) H1 else tb σ H1 Q)) : tOrV ta tb σ H Q := k
theorem rd_ifE (k : t σ H fun c H1 => if c = true then ta σ H1 Q else tb σ H1 Q) : tIf t ta tb σ H Q := k
theorem rd_yes (k : QB true H) : tYes σ H QB := k
/-! arguments, calls -/
variable {QA : List V → Hp → Prop}
theorem rd_nil (k : QA [] H) : tNil σ H QA := k
theorem rd_cons (k : te σ H fun x H1 => tr σ H1 fun xs H2 => QA (x :: xs) H2) : tCons te tr σ H QA := k
theorem rd_call {sp : Sp} {dvs : List V} {E : XK} (k : tr σ H fun vs H1 => sp (vs ++ dvs) H1 Q E) : tCall sp dvs E tr σ H Q := k
theorem rd_cb {r : List V → Hp → VK → Prop} (k : tr σ H fun xs H1 => r xs H1 Q) : tCB r tr σ H Q := k
def lK (Q : VK) : List V → Hp → Prop := fun xs H1 => xs.length ≤ sizeLine ∧ ∀ p, H1 p = none → Q (.ref p) (upd H1 p (.lst xs))
def uK (Q : VK) : List V → Hp → Prop := fun xs H1 => xs.length ≤ sizeLine ∧ ∀ p, H1 p = none → Q (.ref p) (upd H1 p (.tup xs))
theorem rd_lst (k : tr σ H (lK Q)) : tLst tr σ H Q := k
theorem rd_lK {xs : List V} (h : Nat.ble xs.length 1000 = true) (k : nK Q H (.lst xs)) : lK Q xs H := ⟨Nat.le_trans (Nat.le_of_ble_eq_true h) (by decide), k⟩
theorem rd_uK {xs : List V} (h : Nat.ble xs.length 1000 = true) (k : nK Q H (.tup xs)) : uK Q xs H := ⟨Nat.le_trans (Nat.le_of_ble_eq_true h) (by decide), k⟩
theorem rd_tup (k : tr σ H (uK Q)) : tTup tr σ H Q := k
theorem rd_bm {T : String} {r : V → List V → Hp → VK → Prop} (k : te σ H fun x H1 => tyV K T x H1 ∧ tr σ H1 fun xs H2 => r x xs H2 Q) : tBM K T r te tr σ H Q := k
theorem rd_bm0 {T : String} {r : V → List V → Hp → VK → Prop} (k : te σ H fun x H1 => tyV K T x H1 ∧ r x [] H1 Q) : tBM0 K T r te σ H Q := k
theorem rd_ty {A B : Prop} (h : A) (k : B) : A ∧ B := ⟨h, k⟩
/-! slices -/
variable {QO : Option Int → Hp → Prop}
theorem rd_sl {r : V → Option Int → Option Int → Hp → VK → Prop} {tl th : TO} (k : te σ H fun x H1 => tl σ H1 fun l H2 => th σ H2 fun u H3 => r x l u H3 Q) : tSl r te tl th σ H Q := k
theorem rd_np (k : QO none H) : tNoPart σ H QO := k
def iK (QO : Option Int → Hp → Prop) : VK := fun x H => ∃ i, x = .int i ∧ QO (some i) H
theorem rd_pt (k : te σ H (iK QO)) : tPart te σ H QO := k
theorem rd_i (k : QO (some i) H) : iK QO (.int i) H := ⟨i, rfl, k⟩
/-! built-ins -/
def rInt1 : List V → Hp → VK → Prop := fun xs H Q => (∃ i, xs = [.int i] ∧ Q (.int i) H) ∨ ∃ k, xs = [.bl k] ∧ Q (.int (if k then 1 else 0)) H
theorem cr_int {X : Cx} : CallR X (.type "int") rInt1 := call_int1
theorem rd_intI (k : Q (.int i) H) : rInt1 [.int i] H Q := .inl ⟨i, rfl, k⟩
theorem rd_intB (k : Q (.int (b2I b)) H) : rInt1 [.bl b] H Q := .inr ⟨b, rfl, k⟩
def rMax2 : List V → Hp → VK → Prop := fun xs H Q => ∃ i j, xs = [.int i, .int j] ∧ Q (.int (if j > i then j else i)) H
theorem cr_max2 {X : Cx} (hc : X.calm = true) : CallR X (.builtin "max") rMax2 := call_max2 hc
theorem rd_max2 (k : Q (.int (maxI i j)) H) : rMax2 [.int i, .int j] H Q := ⟨i, j, rfl, k⟩
def rMin2 : List V → Hp → VK → Prop := fun xs H Q => ∃ i j, xs = [.int i, .int j] ∧ Q (.int (if j < i then j else i)) H
theorem cr_min2 {X : Cx} (hc : X.calm = true) : CallR X (.builtin "min") rMin2 := call_min2 hc
theorem rd_min2 (k : Q (.int (minI i j)) H) : rMin2 [.int i, .int j] H Q := ⟨i, j, rfl, k⟩
def rLenS : List V → Hp → VK → Prop := fun xs H Q => ∃ z, xs = [.str z] ∧ z.length ≤ sizeLine ∧ Q (.int z.length) H
theorem cr_lenS {X : Cx} : CallR X (.builtin "len") rLenS := call_len_str
theorem rd_lenS {z : Str} (h : fitsS z = true) (k : Q (.int (z.length : Int)) H) : rLenS [.str z] H Q := ⟨z, rfl, fitsS_of h, k⟩
def rLenQ (K : PySem.W.Frag) : List V → Hp → VK → Prop := fun xs H Q => ∃ p ys, xs = [.ref p] ∧ (SqL K H p ys ∨ SqT K H p ys) ∧ Q (.int ys.length) H
theorem cr_lenQ {X : Cx} : CallR X (.builtin "len") (rLenQ X.K) := call_len_seq
theorem rd_lenQ {α : Type} {A : R α} {F : Hp} {xs : List α} (s : SeenQ A K F H v xs) (k : Q (.int (xs.length : Int)) H) : rLenQ K [v] H Q := rd_len s k
def rListQ (K : PySem.W.Frag) : List V → Hp → VK → Prop := fun xs H Q => ∃ p ys, xs = [.ref p] ∧ (SqL K H p ys ∨ SqT K H p ys) ∧ ∀ l, H l = none → Q (.ref l) (upd H l (.lst ys))
theorem cr_listQ {X : Cx} : CallR X (.type "list") (rListQ X.K) := call_list_of
theorem rd_listQ {α : Type} {A : R α} {F : Hp} {xs : List α} (s : SeenQ A K F H v xs) (k : nL A K F Q H xs) : rListQ K [v] H Q := rd_list s k
/-! targets, statements -/
variable {QS : L2.St → Hp → Prop} {g : TG} {ts us : TS} {N B C : L2.St → Hp → Prop} {R : VK}
theorem rd_gn {i : Nat} (k : QS (σ.set i (some v)) H) : gName i v σ H QS := k
theorem rd_gsub {st : TSet} (k : ta σ H fun o H1 => tb σ H1 fun i H2 => st o i v H2 fun H3 => QS σ H3) : gSub ta tb st v σ H QS := k
theorem rd_seq (k : ts ⟨us ⟨N, R, B, C⟩, R, B, C⟩ σ H) : tSeq ts us ⟨N, R, B, C⟩ σ H := k
theorem rd_asg (k : te σ H fun x H1 => g x σ H1 N) : tAsg te g ⟨N, R, B, C⟩ σ H := k
theorem rd_ifS (k : t σ H fun b H1 => if b = true then ts D σ H1 else us D σ H1) : tIfS t ts us D σ H := k
theorem rd_ret (k : te σ H R) : tRet te ⟨N, R, B, C⟩ σ H := k
theorem rd_drop (k : te σ H fun _ H1 => N σ H1) : tDrop te ⟨N, R, B, C⟩ σ H := k
theorem rd_next (k : N σ H) : tNext ⟨N, R, B, C⟩ σ H := k
theorem rd_cut (Mid : L2.St → Hp → Prop) (h : ts ⟨Mid, R, B, C⟩ σ H) (k : ∀ σ' H', Mid σ' H' → us ⟨N, R, B, C⟩ σ' H') : C8.tCut ts us ⟨N, R, B, C⟩ σ H := ⟨Mid, h, k⟩
theorem rd_for {wi : TI} (k : wi σ H fun J H1 => ForG J g ts D σ H1) : tFor wi g ts D σ H := k
theorem rd_lc {wi : TI} {vs : List Nat} (k : wi σ H fun J H1 => ∀ D, H1 D = none → LcG J g t te vs σ D Q H1) : tLc wi g t te vs σ H Q := k
variable {RI : It → Hp → Prop}
/-- what is wanted of a walked list, tuple, text, range -/
def wL (K : PySem.W.Frag) (RI : It → Hp → Prop) : VK := fun x H1 => ∃ a, x = .ref a ∧ (∃ xs, SqL K H1 a xs) ∧ RI (Itl K a) H1
def wT (K : PySem.W.Frag) (RI : It → Hp → Prop) : VK := fun x H1 => ∃ a, x = .ref a ∧ (∃ xs, SqT K H1 a xs) ∧ RI (Itt K a) H1
def wS (RI : It → Hp → Prop) : VK := fun v H1 => ∃ x, v = .str x ∧ RI (Its x) H1
def wR1 (RI : It → Hp → Prop) : List V → Hp → Prop := fun vs H1 => ∃ j : Int, vs = [.int j] ∧ -(2 ^ 62) ≤ j ∧ j < 2 ^ 62 ∧ RI (Itr 0 j.toNat) H1
theorem rd_iL (k : te σ H (wL K RI)) : iList K te σ H RI := k
theorem rd_iT (k : te σ H (wT K RI)) : iTup K te σ H RI := k
theorem rd_iS (k : te σ H (wS RI)) : iStr te σ H RI := k
theorem rd_iR1 (k : tr σ H (wR1 RI)) : iRng1 tr σ H RI := k
theorem rd_wS {z : Str} (k : RI (Its z) H) : wS RI (.str z) H := ⟨z, rfl, k⟩
def rgOk (a b : Int) : Bool := (decide (-(2 ^ 62) ≤ a) && decide (a < 2 ^ 62)) && (decide (-(2 ^ 62) ≤ b) && decide (b < 2 ^ 62))
theorem rd_r1 {n : Int} (h : rgOk 0 n = true) (k : RI (Itr 0 (n - 0).toNat) H) : wR1 RI [.int n] H := by
  unfold rgOk at h
  simp only [Bool.and_eq_true, decide_eq_true_eq] at h
  exact ⟨n, rfl, h.2.1, h.2.2, by rw [Int.sub_zero] at k; exact k⟩
end
end Gl
namespace Gl
open PySem PySem.Spec PyProof.Rows L2
theorem if_t {α : Type} {b : Bool} {x y r : α} (h : (if b = true then x else y) = r) (hb : b = true) : x = r := by
  rw [hb] at h; exact h
theorem if_f {α : Type} {b : Bool} {x y r : α} (h : (if b = true then x else y) = r) (hb : b = false) : y = r := by
  rw [hb] at h; exact h
theorem if_tt {A B : Prop} (h : A) : if true = true then A else B := h
theorem aft_nx {S ρ : Type} {s : S} {k : S → Option ρ} {r : Option ρ} (h : aft (.nx s) k = r) : k s = r := h
theorem aft_rt {S ρ : Type} {v : ρ} {k : S → Option ρ} {r : Option ρ} (h : aft (.rt v) k = r) : some v = r := h
/-! ## walked rows -/
section
variable {K : PySem.W.Frag} {P : Addr → Prop} {F0 H0 F H : Hp} {v : V} {α : Type} {A : R α} {xs : List α} {RI : It → Hp → Prop} {σ : L2.St} {te : TE}
theorem rd_wLF (S : Sx P F0 H0 F H) (r : (qL A).r K F v xs) (k : ∀ p vs, SqL K F p vs → Row A K F vs xs → RI (Itl K p) H) : wL K RI v H := by
  obtain ⟨p, vs, rfl, h1, h2⟩ := r
  exact ⟨p, rfl, ⟨vs, Same.seq S.sub (SqL.of h1)⟩, k p vs (SqL.of h1) h2⟩
theorem rd_wTF (S : Sx P F0 H0 F H) (r : (qT A).r K F v xs) (k : ∀ p vs, SqT K F p vs → Row A K F vs xs → RI (Itt K p) H) : wT K RI v H := by
  obtain ⟨p, vs, rfl, h1, h2⟩ := r
  exact ⟨p, rfl, ⟨vs, same_t S.sub h1⟩, k p vs h1 h2⟩
end
/-! ## targets of two names; a block's slots -/
section
variable {K : PySem.W.Frag} {σ : L2.St} {H : Hp} {p : Addr} {u w : V} {QS : L2.St → Hp → Prop} {t g : TG} {ts : TGs} {n : Nat} {vs : List V}
theorem rd_wp {A B : Prop} (h : A) (k : B) : A ∧ B := ⟨h, k⟩
end
/-! ## isinstance of a value whose kind is known -/
section
variable {K : PySem.W.Frag} {P : Addr → Prop} {F0 H0 F H : Hp} {v : V} {α β : Type} {A : R α} {B : R β} {xs : List α} {Q : VK}
theorem tx_int {i : Int} : TyX K H (.int i) (.type "int") := .base (.int i)
theorem tx_bl {i : Bool} : TyX K H (.bl i) (.type "bool") := .base (.bl i)
theorem tx_str {i : Str} : TyX K H (.str i) (.type "str") := .base (.str i)
theorem tx_non : TyX K H .non (.type "NoneType") := .base .non
theorem tx_sqt {p : Addr} {vs : List V} (h : SqT K H p vs) : TyX K H (.ref p) (.type "tuple") := by
  rcases h with (h | ⟨o, h⟩) | ⟨o, its, n, h1, h2, _⟩
  · exact .base (.tup h)
  · exact .fTuple h
  · exact .kTuple h1 h2
theorem rd_isi {t : Value} {n : String} {b : Bool} (s : TyX K H v t) (h : PySem.W.kitOne [] t (.type n) = some b) (k : Q (.bl b) H) (hk : PySem.W.kitOne K t (.type n) = PySem.W.kitOne [] t (.type n) := by rfl) : rIsi K [v, .ty n] H Q :=
  ⟨v, .ty n, t, .type n, b, rfl, .ty n, s, hk.trans h, k⟩
end
/-! ## a def's promise, its end -/
theorem live1 {P : Addr → Prop} {H0 F H : Hp} {p : Addr} {o : HO} (w : Ow P H0 F H p o) : ∀ a, a = p → H a ≠ none := fun a z => by rw [z, w.at_]; exact fun h => nomatch h
end Gl
namespace Gl
open PySem PySem.Spec PyProof.Rows L2
theorem ifE_j {b : Bool} {u1 u2 : VK → Prop} {Q : VK} (J : V → Hp → Prop) (h1 : b = true → ∀ Q' : VK, (∀ c H', J c H' → Q' c H') → u1 Q') (h2 : b = false → ∀ Q' : VK, (∀ c H', J c H' → Q' c H') → u2 Q') (k : ∀ c H', J c H' → Q c H') : if b = true then u1 Q else u2 Q := by
  cases b with
  | true => exact h1 rfl Q k
  | false => exact h2 rfl Q k
end Gl
namespace Gl
open PySem PySem.Spec PyProof.Rows L2
section
variable {X : Cx}
theorem ps_dead {st : Stmt} : PS X st (fun _ _ _ => False) := ⟨fun _ _ _ _ _ _ h => h.elim⟩
theorem pss_dead {ss : List Stmt} : PSs X ss (fun _ _ _ => False) := ⟨fun _ _ _ _ _ _ h => h.elim⟩
end
end Gl
namespace Gl
open PySem PySem.Spec PyProof.Rows L2
/-! ## a thing of any plain kind -/
inductive Th where
  | d (x : PyData) | dct
def qTh : R Th := ⟨fun K F v a => match a with
  | .d x => Dp K F v x
  | .dct => ∃ p, v = .ref p ∧ F p = some (.dK []), fun {K F F' v a} e h => by
    cases a with
    | d x => exact Dp.mono e h
    | dct =>
      obtain ⟨p, h1, h2⟩ := h
      exact ⟨p, h1, e _ _ h2⟩⟩
def thK : Th → String
  | .d .none => "NoneType"
  | .d (.bool _) => "bool"
  | .d (.int _) => "int"
  | .d (.str _) => "str"
  | .d (.list _) => "list"
  | .d (.tuple _) => "tuple"
  | .d (.dict _) => "dict"
  | .dct => "dict"
def isK (k n : String) : Bool := k == n || (k == "bool" && n == "int")
def thIs (n : String) (a : Th) : Bool := isK (thK a) n
def thS : Th → Option Str
  | .d (.str s) => some s
  | _ => none
def thI : Th → Option Int
  | .d (.int s) => some s
  | _ => none
section
variable {K : PySem.W.Frag} {P : Addr → Prop} {F0 H0 F H : Hp} {v : V} {a : Th} {Q : VK}
theorem thS_fact {s : Str} (r : qTh.r K F v a) (h : thS a = some s) : v = .str s := by
  cases a with
  | dct => cases h
  | d x =>
    cases x with
    | str z =>
      cases (show some z = some s from h)
      cases (show Dp K F v (.str _) from r)
      rfl
    | _ => cases h
theorem thI_fact {s : Int} (r : qTh.r K F v a) (h : thI a = some s) : v = .int s := by
  cases a with
  | dct => cases h
  | d x =>
    cases x with
    | int z =>
      cases (show some z = some s from h)
      cases (show Dp K F v (.int _) from r)
      rfl
    | _ => cases h
theorem tx_sql {p : Addr} {vs : List V} (h : SqL K H p vs) : TyX K H (.ref p) (.type "list") := by
  rcases h with (h | ⟨o, h⟩) | ⟨o, its, n, h1, h2, _⟩
  · exact .base (.lst h)
  · exact .base (.frz h)
  · exact .kList h1 h2
theorem tx_th (S : Sx P F0 H0 F H) (r : qTh.r K F v a) : TyX K H v (.type (thK a)) := by
  cases a with
  | dct =>
    obtain ⟨p, rfl, h⟩ := r
    exact .base (.dK (S.sub _ _ h))
  | d x =>
    cases x with
    | none => cases (show Dp K F v .none from r); exact tx_non
    | bool b => cases (show Dp K F v (.bool b) from r); exact tx_bl
    | int b => cases (show Dp K F v (.int b) from r); exact tx_int
    | str b => cases (show Dp K F v (.str b) from r); exact tx_str
    | list b =>
      cases (show Dp K F v (.list b) from r) with
      | lst h _ => exact tx_sql (Same.seq S.sub h)
    | tuple b =>
      cases (show Dp K F v (.tuple b) from r) with
      | tup h _ => exact tx_sqt (same_t S.sub h)
    | dict b => cases (show Dp K F v (.dict b) from r)
theorem rd_isiTh {n : String} (s : TyX K H v (.type (thK a))) (h : (["NoneType", "bool", "int", "str", "list", "tuple", "dict"].all fun k => decide (PySem.W.kitOne [] (.type k) (.type n) = some (isK k n))) = true) (k : Q (.bl (thIs n a)) H) (hk : ∀ t, PySem.W.kitOne K (.type t) (.type n) = PySem.W.kitOne [] (.type t) (.type n) := by intro t; rfl) : rIsi K [v, .ty n] H Q := by
  refine ⟨v, .ty n, _, .type n, thIs n a, rfl, .ty n, s, (hk _).trans ?_, k⟩
  have hm : thK a ∈ ["NoneType", "bool", "int", "str", "list", "tuple", "dict"] := by
    cases a with
    | dct => decide
    | d x => cases x <;> simp [thK]
  exact of_decide_eq_true (List.all_eq_true.mp h _ hm)
end
end Gl
namespace Gl
open PySem PySem.Spec PyProof.Rows L2
/-! ## instances -/
section
variable {K : PySem.W.Frag} {P : Addr → Prop} {F0 H0 F H : Hp} {v : V} {Q : VK} {σ : L2.St} {ta te to : TE} {C p dx : Addr} {m f : Str} {sp : Sp} {E : XK} {t : TA} {dvs : List V} {fs : List (Str × V)}
def fdK (K : PySem.W.Frag) (f : Str) (Q : VK) : VK := fun x H1 => ∃ a C dx fs v, x = .ref a ∧ H1 a = some (.ins C dx fs) ∧ Cls K C ∧ NoAttr K C f ∧ fs.lookup f = some v ∧ Q v H1
theorem rd_fld (k : ta σ H (fdK K f Q)) : tFld K ta f σ H Q := k
theorem fd_at {u : V} (h : H p = some (.ins C dx fs)) (c : Cls K C) (n : NoAttr K C f) (l : fs.lookup f = some u) (k : Q u H) : fdK K f Q (.ref p) H := ⟨p, C, dx, fs, u, rfl, h, c, n, l, k⟩
def fsK (K : PySem.W.Frag) (f : Str) (y : V) (R : Hp → Prop) : VK := fun x H2 => ∃ a C dx fs, x = .ref a ∧ H2 a = some (.ins C dx fs) ∧ Cls K C ∧ NoAttr K C f ∧ fs.length < 1000 ∧ R (upd H2 a (.ins C dx (putF f y fs)))
theorem rd_sfld {N B C : L2.St → Hp → Prop} {R : VK} (k : te σ H fun y H1 => to σ H1 (fsK K f y (N σ))) : sFld K to te f ⟨N, R, B, C⟩ σ H := k
theorem fset {y : V} {R : Hp → Prop} {fs' : List (Str × V)} (S : Sx P F0 H0 F H) (w : Ow P H0 F H p (.ins C dx fs)) (c : Cls K C) (n : NoAttr K C f) (l : Nat.ble fs.length 900 = true) (e : putF f y fs = fs') (k : ∀ H', Sx (fun a => a = p) F H F H' → Ow P H0 F H' p (.ins C dx fs') → R H') : fsK K f y R (.ref p) H :=
  ⟨p, C, dx, fs, rfl, w.at_, c, n, Nat.lt_of_le_of_lt (Nat.le_of_ble_eq_true l) (by decide), by rw [e]; exact k _ (putS S w) w.put⟩
def mtK (C : Addr) (m : Str) (G : V → Hp → Prop) : VK := fun x H1 => ∃ a dx fs, x = .ref a ∧ H1 a = some (.ins C dx fs) ∧ fs.lookup m = none ∧ G x H1
theorem rd_meth (k : ta σ H (mtK C m fun x H1 => t σ H1 fun vs H2 => sp (x :: (vs ++ dvs)) H2 Q E)) : tMeth C m sp dvs E ta t σ H Q := k
theorem mt_at {G : V → Hp → Prop} (h : H p = some (.ins C dx fs)) (l : fs.lookup m = none) (k : G (.ref p) H) : mtK C m G (.ref p) H := ⟨p, dx, fs, rfl, h, l, k⟩
/-- a new instance: what is wanted of it -/
def mkK (C : Addr) (sp : Sp) (E : XK) (Q : VK) : List V → Hp → Prop := fun vs H1 => ∀ x dx, H1 x = none → H1 dx = none → dx ≠ x → sp (.ref x :: vs) (upd (upd H1 dx (.own x)) x (.ins C dx [])) (fun v H2 => v = .non ∧ Q (.ref x) H2) E
theorem rd_makeR (k : t σ H (mkK C sp E Q)) : StX.tMakeR C sp E t σ H Q := k
/-- what a def with a star parameter promises, by what its body does -/
def starSp (n : Nat) (sp : Sp) : Sp := fun vs H Q E => ∃ ws rest, vs = ws ++ rest ∧ ws.length = n ∧ rest.length ≤ sizeLine ∧ ∀ p, H p = none → sp (ws ++ [.ref p]) (upd H p (.tup rest)) Q E
theorem mk_star {α : Type} {A : R α} {vs : List V} {xs : List α} (S : Sx P F0 H0 F H) (r : Row A K F vs xs) (hl : Nat.ble vs.length 900 = true)
    (k : ∀ x dx v F1 H1, H x = none → Sx P0 F H F1 H1 → Ow (fun a => a = x) H1 F1 H1 x (.ins C dx []) → (qT A).r K F1 v xs → sp [.ref x, v] H1 (fun v H2 => v = .non ∧ Q (.ref x) H2) E) : mkK C (starSp 1 sp) E Q vs H := by
  intro x dx hx hdx ne
  refine ⟨[.ref x], vs, rfl, rfl, Nat.le_trans (Nat.le_of_ble_eq_true hl) (Nat.le_trans (by decide) (show 1000 ≤ sizeLine by rw [sizeLine_eq]; decide)), fun p hp => ?_⟩
  have hdx2 : upd H dx (.own x) x = none := by rw [upd_ne (Ne.symm ne)]; exact hx
  have c1 : Sx P0 F H F (upd (upd H dx (.own x)) x (.ins C dx [])) := ((Sx.refl0 S.sub).temp hdx).temp hdx2
  have hxp : x ≠ p := fun e => by subst e; rw [upd_same] at hp; cases hp
  have c2 := c1.alloc (o := .tup vs) hp
  refine k x dx (.ref p) _ _ hx c2 ⟨?_, ?_, .inr rfl⟩ ⟨p, vs, rfl, .inl (.inl upd_same), Row.mono c2.le r⟩
  · rw [upd_ne hxp]
    exact S.free hx
  · rw [upd_ne hxp, upd_same]
/-- a new instance without a star parameter -/
theorem mk_plain {vs : List V} (S : Sx P F0 H0 F H)
    (k : ∀ x dx H1, H x = none → Sx P0 F H F H1 → Ow (fun a => a = x) H1 F H1 x (.ins C dx []) → sp (.ref x :: vs) H1 (fun v H2 => v = .non ∧ Q (.ref x) H2) E) : mkK C sp E Q vs H := by
  intro x dx hx hdx ne
  have hdx2 : upd H dx (.own x) x = none := by rw [upd_ne (Ne.symm ne)]; exact hx
  exact k x dx _ hx (((Sx.refl0 S.sub).temp hdx).temp hdx2) ⟨S.free hx, upd_same, .inr rfl⟩
/-- what __init__ has made is let stand for good -/
theorem fzI {x : Addr} {F1 H1 F' H' : Hp} {o : HO} (c1 : Sx P0 F H F1 H1) (hx : H x = none) (c : Sx (fun a => a = x) F1 H1 F' H') (w : Ow (fun a => a = x) H1 F' H' x o) : ∃ F'', Sx P0 F H F'' H' ∧ Same F' F'' ∧ F'' x = some o := by
  have S2 : Sx P0 F H F' H' := c1.call c fun a e => by subst e; exact .inr hx
  have w2 : Ow P0 H F' H' x o := ⟨w.fr, w.at_, .inl hx⟩
  exact ⟨_, S2.freeze w2 hx, w2.leF, upd_same⟩
end
/-! ## join, xs[i] = v -/
section
variable {K : PySem.W.Frag} {P : Addr → Prop} {F0 H0 F H : Hp} {v : V} {Q : VK} {α : Type} {A : R α} {xs : List α} {p : Addr} {vs : List V} {i : Int}
def joinOk (a : Str) (ys : List Str) : Bool := decide ((ys.map (·.length)).sum + ys.length * a.length ≤ 16777216)
theorem row_str {vs : List V} {xs : List Str} (r : Row qS K F vs xs) : vs = xs.map V.str := by
  induction r with
  | nil => rfl
  | cons h t ih =>
    rw [ih, show _ = _ from h]; rfl
def rJoin (K : PySem.W.Frag) : V → List V → Hp → VK → Prop := fun x xs H Q => ∃ a p, ∃ ys : List Str, x = .str a ∧ xs = [.ref p] ∧ (SqL K H p (ys.map V.str) ∨ SqT K H p (ys.map V.str)) ∧ (ys.map (·.length)).sum + ys.length * a.length ≤ 16777216 ∧ Q (.str (Txt.join a ys)) H
theorem mt_joinK {X : Cx} : MtR X "str.join" (rJoin X.K) := mt_join
theorem rd_join {a : Str} {xs : List Str} (s : SeenQ qS K F H v xs) (h : joinOk a xs = true) (k : Q (.str (Txt.join a xs)) H) : rJoin K (.str a) [v] H Q := by
  obtain ⟨p, vs, rfl, h1, r⟩ := s.seq
  obtain rfl := row_str r
  exact ⟨a, p, xs, rfl, rfl, h1, of_decide_eq_true h, k⟩
theorem tyS_str {H : Hp} {x : Str} : tyV K "str" (.str x) H := by first | exact .inr (.inl ⟨rfl, _, rfl⟩) | exact ⟨rfl, _, rfl⟩ | (unfold tyV; simp)
end
section
variable {K : PySem.W.Frag} {P : Addr → Prop} {F0 H0 F H : Hp} {v : V} {Q : VK} {α : Type} {A : R α} {xs : List α} {lo hi : Option Int}
theorem rd_slA (S : Sx P F0 H0 F H) (r : (qT A).r K F v xs) (k : ∀ v' F' H', Sx P0 F H F' H' → (qT A).r K F' v' (cut xs lo hi) → Q v' H') : rSlA K v lo hi H Q := by
  obtain ⟨p, vs, rfl, h1, h2⟩ := id r
  refine ⟨p, vs, rfl, same_t S.sub h1, fun hw => ?_, fun _ q hq => alT' S k q _ hq (row_cut h2 lo hi)⟩
  refine k _ F H (Sx.refl0 S.sub) ?_
  have e : cut xs lo hi = xs := by
    unfold cut
    rw [← pLen h2, hw.1, hw.2, List.drop_zero, Nat.sub_zero, List.take_of_length_le (by rw [pLen h2]; exact Nat.le_refl _)]
  rw [e]
  exact r
end
section
variable {X : Cx} {K : PySem.W.Frag} {e l tg : Expr} {te : TE} {f : Str} {pos : Pos}
theorem pi_tupK (hl : PE X l te) (hK : X.K = K := by rfl) : PI X tg l (iTup K te) := by subst hK; exact pi_tup hl
theorem pi_listK (hl : PE X l te) (hK : X.K = K := by rfl) : PI X tg l (iList K te) := by subst hK; exact pi_list hl
theorem pe_fldK (he : PE X e te) (hb : attributeBase e f X.env (eval e X.env) = eval e X.env) (hK : X.K = K := by rfl) : PE X (.Attribute e f pos) (tFld K te f) := by subst hK; exact pe_fld he hb
end
end Gl
namespace Gl
open PySem PySem.Spec PyProof.Rows L2
end Gl
namespace Gl
open PySem PySem.Spec PyProof.Rows L2
end Gl
namespace Gl
open PySem PySem.Spec PyProof.Rows L2
/-! ## dicts whose keys are tuples of any depth, their values True -/
mutual
inductive NKv (K : PySem.W.Frag) (H : Hp) : NestedKey → V → Prop
  | non : NKv K H .none .non
  | bl (b : Bool) : NKv K H (.num (if b = true then 1 else 0)) (.bl b)
  | int (i : Int) : NKv K H (.num i) (.int i)
  | txt (x : Str) : NKv K H (.text x) (.str x)
  | tup {p : Addr} {vs : List V} {ks : List NestedKey} : SqT K H p vs → NKs K H ks vs → NKv K H (.tup ks) (.ref p)
inductive NKs (K : PySem.W.Frag) (H : Hp) : List NestedKey → List V → Prop
  | nil : NKs K H [] []
  | cons {k : NestedKey} {v : V} {ks : List NestedKey} {vs : List V} : NKv K H k v → NKs K H ks vs → NKs K H (k :: ks) (v :: vs)
end
mutual
theorem NKv.mono {K : PySem.W.Frag} {F F' : Hp} (e : Same F F') : ∀ {k : NestedKey} {v : V}, NKv K F k v → NKv K F' k v
  | _, _, .non => .non
  | _, _, .bl b => .bl b
  | _, _, .int i => .int i
  | _, _, .txt x => .txt x
  | _, _, .tup h a => .tup (same_t e h) (NKs.mono e a)
theorem NKs.mono {K : PySem.W.Frag} {F F' : Hp} (e : Same F F') : ∀ {ks : List NestedKey} {vs : List V}, NKs K F ks vs → NKs K F' ks vs
  | _, _, .nil => .nil
  | _, _, .cons h a => .cons (NKv.mono e h) (NKs.mono e a)
end
section
variable {X : Cx} {pins : List (Addr × Obj)} {σ : L2.St} {H : Hp} {s : Shared}
mutual
theorem NKv.is (I : Inv X pins σ H s) : ∀ {k : NestedKey} {v : V} {u : Value}, NKv X.K H k v → RelV v u → NestedIs s.heap k u
  | _, _, u, .non, r => by
    cases r
    exact .none
  | _, _, u, .bl b, r => by
    cases r
    exact .bool rfl
  | _, _, u, .int i, r => by
    obtain ⟨t, rfl⟩ := r
    exact .int i t
  | _, _, u, .txt x, r => by
    obtain ⟨t, rfl⟩ := r
    exact .text x t
  | _, _, u, .tup h a, r => by
    cases (show u = Value.ref _ from r)
    obtain ⟨its, rv, ⟨o, e1, e2, n, e3⟩, _⟩ := I.tuple h
    exact .tup e1 e2 e3 (by simpa using NKs.is I a rv)
theorem NKs.is (I : Inv X pins σ H s) : ∀ {ks : List NestedKey} {vs : List V} {us : List Value}, NKs X.K H ks vs → Vals vs us → NestedAll s.heap ks us
  | _, _, _, .nil, .nil => .nil
  | _, _, _, .cons h a, .cons r rs => .cons (NKv.is I h r) (NKs.is I a rs)
end
end
/-- what stands for a key -/
structure Kd {α : Type} (A : R α) where
  k : α → NestedKey
  is : ∀ {K : PySem.W.Frag} {F : Hp} {v : V} {a : α}, A.r K F v a → NKv K F (k a) v
  inj : ∀ a b : α, k a = k b → a = b
  dep : ∀ a : α, (k a).depth ≤ 8
def kI : Kd qI := ⟨.num, fun {K F v a} h => by cases (show v = .int a from h); exact .int a, fun a b h => by cases h; rfl, fun a => by show 0 ≤ 8; omega⟩
end Gl
namespace Gl
open PySem PySem.W PySem.Calls PyProof.Rows
end Gl
namespace Gl
open PySem PySem.Spec PyProof.Rows L2
/-- what a class must have for its operator of the program's own -/
structure OwnOp (K : PySem.W.Frag) (C : Addr) (nm : String) (f : Addr) : Prop where
  first : PySem.W.selfFirst K C = true
  at_ : PySem.W.findIn K (.ref C) (PySem.dunder nm) = some (some (.ref f))
  fn : PySem.W.isFn K (.ref f) = true
  rev : PySem.W.findIn K (.ref C) (dunderR nm) = some none
end Gl
namespace Gl
open PySem PySem.W PySem.Calls PyProof.Rows
end Gl
namespace Gl
open PySem PySem.Spec PyProof.Rows L2
/-- what a class must have for == by a method of the program's own -/
structure OwnEq (K : PySem.W.Frag) (C f : Addr) : Prop where
  at_ : PySem.W.findIn K (.ref C) "__eq__" = some (some (.ref f))
  fn : PySem.W.isFn K (.ref f) = true
end Gl
namespace PySem
namespace OwnE
open PySem.W PySem.Calls PyProof.Rows PySem.HandSPX
/-! ## own errors over ValueError whose __init__ says super().__init__('text') and then keeps its parameters as fields -/
abbrev supS (text : Str) (j : Nat) (p0 p1 p2 p3 p4 p5 : Pos) : Stmt := .Expr (.Call (.Attribute (.Call (.Name "super" p0) [] [] p1) "__init__" p2) [.Constant (.str text) j p3] [] p4) p5
abbrev setS (f : Str) (q1 q2 q3 q4 : Pos) : Stmt := .Assign [.Attribute (.Name "self" q1) f q2] (.Name f q3) q4
/-- what the written part says of the class at C and of its __init__ at fI (q: its long name) -/
structure ErC (P : Program) (K : Frag) (C fI : Addr) (q : Str) (params : Arguments) (body : List Stmt) (scope : Scope) : Prop where
  x : L2.OexC K C
  iC : findIn K (.ref C) "__init__" = some (some (.ref fI))
  tC : typeIn K (.ref fI) = some (.type "function")
  sup : ks_superIn K C C "__init__" = some (some (.builtin "ValueError.__init__"))
  sub : subIn K (.ref C) (.type "ValueError") = some true
  own : mroIn K C (.ref C) = some true
  tp : nsIn K cStatics "thirdparty.any" = some none
  sg : nsIn K mainGlobals "super" = some none
  main : (P.main.scope.names.lookup ("super" : Str)).isSome = false
  fn : ∃ (oc : Value) (od : Option Addr) (kV doc pm : Value) (an : Option Addr) (cda : Addr) (ct : Value) (cc : Addr) (osl : Array (Option Value)) (ccl : Value) (cdd : Option Addr) (vs : Array Value) (ccs : Array (Option Value)) (file : Str) (tf : Tok) (cl : Value) (cld : Option Addr) (csl : Array (Option Value)),
    K.lookup fI = some ⟨oc, od, .func (ksFn "__init__" q params body scope .none kV doc pm an (.ref cda) ct cc), osl⟩ ∧ codeIn K (.ref cda) q = true ∧ K.lookup cda = some ⟨ccl, cdd, .fields vs, ccs⟩ ∧ vs[2]? = some (.str file tf) ∧ ((P.main.file : Str) == file) = true ∧ K.lookup cc = some ⟨cl, cld, .cell (some (.ref C)), csl⟩
section
variable {prog : Program} {w : World} {A : Around} {E : Value → Shared → Prop} {R : Result → Shared → Prop} {s : Shared} {K : Frag} {mg : Str → Option Value} {C fI : Addr} {q text : Str} {params : Arguments} {body : List Stmt} {scope : Scope}
theorem bw_call {u e t0 C : Addr} {nm q : Str} {N : Addr} {bs bm : List Value} {hdct : Bool} {sn : List Str} {sub : List Value} {ab : Bool} {col : Option Bool} {dd : Option Addr} {k0 k1 k2 k3 k5 : Option Value} {h : Heap} {g : Array GenState} {d : Drawn} {t : Nat} {os : OsState} {rest : List Value} {Q : Value → Shared → Prop}
    (hC : h.get? C = some (excClassObj nm q C N bs bm hdct sn sub ab col dd k0 k1 k2 k3 k5 "ValueError.__new__")) (he : h.get? e = some (excO C t0)) (hu : h.get? u = some (kxs_mw "ValueError.__init__" e)) (hrest : rest.length ≤ sizeLine)
    (hq : ∀ h' t1, (∀ b o, b ≠ e → h.get? b = some o → h'.get? b = some o) → h'.get? e = some (excO C t1) → Q .none ⟨h', g, d, t, os⟩) :
    wpAny (model prog w) A (call (.ref u) rest) Q E ⟨h, g, d, t, os⟩ := by
  refine wpAny_call (codeAny_of_tree ?_)
  show wpAny _ A.in1 (callAny (.ref u) ⟨rest, []⟩) _ _ _
  simp only [callAny]
  refine wpAny_bind (wpAny_load hu ?_)
  simp only [kxs_mw, show (Value.type "method-wrapper" == Value.type "method" || Value.type "method-wrapper" == Value.type "builtin_function_or_method" || Value.type "method-wrapper" == Value.type "method-wrapper") = true by decide, if_true]
  refine KFB.if_so (by decide) ?_
  refine wpAny_bind (check_bound_init PySem.F.excBase_ValueError.toExcCallFacts hC he rfl ?_)
  refine wpAny_bind (wpAny_pure (wpAny_pure ?_))
  refine ⟨plainId_quiet PySem.F.excBase_ValueError.init.plain _, codeAny_builtin PySem.F.excBase_ValueError.initEntry ?_⟩
  exact exc_init_tree (cls := .ref C) (t0 := t0) (dv := none) (c2 := .none) (c3 := .none) (b4 := .bool false) he hrest fun h' k e' _ => hq h' _ k e'
/-- super().__init__('text') -/
theorem sup_stmt (T : ErC prog K C fI q params body scope) {L x t0 cc cda : Addr} {m mb : Str → Option Value} {j : Nat} {p0 p1 p2 p3 p4 p5 : Pos} {ar : Arg} {Q : Flow → Shared → Prop} {oc : Value} {od : Option Addr} {dV kV doc pm : Value} {an : Option Addr} {ct : Value} {osl : Array (Option Value)} {ccl : Value} {cdd : Option Addr} {vs : Array Value} {ccs : Array (Option Value)} {file : Str} {tf : Tok} {cl : Value} {cld : Option Addr} {csl : Array (Option Value)}
    (lf : K.lookup fI = some ⟨oc, od, .func (ksFn "__init__" q params body scope dV kV doc pm an (.ref cda) ct cc), osl⟩) (lc : K.lookup cda = some ⟨ccl, cdd, .fields vs, ccs⟩) (hvs : vs[2]? = some (.str file tf)) (hfile : ((prog.main.file : Str) == file) = true)
    (lcc : K.lookup cc = some ⟨cl, cld, .cell (some (.ref C)), csl⟩) (X : K.In s.heap) (G : s.heap.Ns mainGlobals mg) (hsg : mg "super" = none) (Gb : s.heap.Ns builtinsNs mb) (hb : mb "super" = bootBuiltins "super")
    (hn : s.heap.Ns L m) (hv : m ar.arg = some (.ref x)) (hx : s.heap.get? x = some (excO C t0)) (hp : (params.posonlyargs ++ params.args).head? = some ar)
    (hks : scope.names.lookup ("super" : Str) = some .globalImplicit) (hkc : scope.names.lookup ("__class__" : Str) = some .free) (hka : scope.names.lookup ar.arg = some .local) (hk : scope.kind = .function)
    {pl : Sem Bool} (he : eval (.Call (.Attribute (.Call (.Name "super" p0) [] [] p1) "__init__" p2) [.Constant (.str text) j p3] [] p4) (ksEnv q scope L fI (.ref cda) cc) = (do
      let ov ← attributeBase (.Call (.Name "super" p0) [] [] p1) "__init__" (ksEnv q scope L fI (.ref cda) cc) (eval (.Call (.Name "super" p0) [] [] p1) (ksEnv q scope L fI (.ref cda) cc))
      standAt p2.atName
      let (f, first) ← holding [ov] (getMethod ov "__init__" pl)
      callWith p4 f first (backTo p4 (starEach [.Constant (.str text) j p3] (ksEnv q scope L fI (.ref cda) cc))) []))
    (hi : interactive (ksEnv q scope L fI (.ref cda) cc) = false) (hsw : swapsWith (.Call (.Attribute (.Call (.Name "super" p0) [] [] p1) "__init__" p2) [.Constant (.str text) j p3] [] p4) none p5.line (ksEnv q scope L fI (.ref cda) cc) = pure false)
    (hq : ∀ h' tk t1, h'.Ns L m → (∀ b o, b ≠ x → s.heap.get? b = some o → h'.get? b = some o) → h'.get? x = some (excO C t1) → Q .next { s with heap := h', toks := tk }) :
    _root_.PySem.wpAt (model prog w) A (.func body (ksEnv q scope L fI (.ref cda) cc)) (exec (supS text j p0 p1 p2 p3 p4 p5) (ksEnv q scope L fI (.ref cda) cc)) Q E s := by
  obtain ⟨nm, qn, N, bs, bm, sn, sub, ab, col, dd, k0, k1, k2, k3, k5, hC, hbm⟩ := T.x.cls
  have hcl : clsIn K C = some { name := nm, bases := bs, mro := .ref C :: bm, ns := N, qualname := qn, hasDict := true, slotNames := sn, subclasses := sub, abstract := ab, collection := col, hasDel := false } := by unfold clsIn; rw [hC] <;> rfl
  have hm := T.sup
  unfold ks_superIn at hm
  rw [hcl] at hm
  obtain ⟨hh, g, d, t, os⟩ := s
  refine ks_wpAt_Expr_any (ks_wpAt_MethodCall ?_ he) hi hsw
  refine ks_wpAt_super_base (env := ksEnv q scope L fI (.ref cda) cc) hks hkc rfl rfl (X _ _ lf) rfl hp rfl (X _ _ lc) rfl hvs hfile T.main ?_
  refine ks_loadName_global hk hks (loadGlobal_builtin (env := ksEnv q scope L fI (.ref cda) cc) G hsg Gb (hb.trans (by rfl)) ⟨rfl, ?_⟩)
  refine wpAny_loadName_free hk hkc rfl ⟨_, X _ _ lcc, rfl⟩ ?_
  refine wpAny_loadName_local hk hka hn hv ?_
  refine ks_wpAny_isType_cls (X _ _ hC) rfl ⟨rfl, ?_⟩
  refine ks_wpAny_call_super (X _ _ hC) rfl hx rfl (fun c e => by cases e) (looks_mroIn X T.own) (fun h' e k => ?_)
  have X' : K.In h' := X.keeps k
  have hI : Looks (model prog w) h' (isInstance (.ref x) (.type "ValueError")) true := (InstAt.type (⟨k _ _ hx, rfl, rfl, trivial⟩ : InstAt h' x (excO C t0) C none)).andThen (looks_subIn X' T.sub)
  have hxC : x ≠ C := fun z => by
    have e1 := X _ _ hC
    rw [← z, hx] at e1
    cases e1
  refine kxs_getMethod kxs_ValueError e (looks_opaque X' T.tp) (l₀ := .ref C :: bm) (fun A Q E s k q => wpAny_bind ((looks_clsIn X' hcl) A _ E s k (wpAny_pure q))) rfl X' hm hI hxC rfl ?_
  have hw : (h'.push (kxs_mw "ValueError.__init__" x)).get? h'.objs.size = some (kxs_mw "ValueError.__init__" x) := Heap.get?_push_at rfl rfl
  refine kxs_callWith (i := "ValueError.__init__") (x := x) rfl (evalArgs_plain (Calls.spliced_cons (wpAny_Constant_str (k := j) (pos := p3) (Calls.spliced_nil ⟨hw, ?_⟩))))
  refine bw_call ((X'.keeps fun b o e => Heap.get?_push_of_some _ e) _ _ hC) (Heap.get?_push_of_some _ (k _ _ hx)) hw (by rw [sizeLine_eq]; exact (by decide : 1 ≤ 16777216)) fun h3 t1 k3 hx3 => ?_
  obtain ⟨oL, es, ep, hL, r⟩ := hn
  have Lx : L ≠ x := fun z => by
    have e1 := hL
    rw [z] at e1
    have e2 := hx.symm.trans e1
    cases e2
    obtain ⟨hd, _⟩ := r
    cases hd
  exact hq h3 _ t1 ⟨oL, es, ep, k3 _ _ Lx (Heap.get?_push_of_some _ (k _ _ hL)), r⟩ (fun b o hb ho => k3 b o hb (Heap.get?_push_of_some _ (k b o ho))) hx3
end
/-- self.f = f, .. -/
inductive Sets : List Str → List Stmt → Prop
  | nil : Sets [] []
  | cons {f : Str} {fs : List Str} {ss : List Stmt} {q1 q2 q3 q4 : Pos} (r : Sets fs ss) : Sets (f :: fs) (setS f q1 q2 q3 q4 :: ss)
/-- an error that is being made: d its dict (none as yet), of mA; h0 the heap ahead of its making -/
def PartE (h0 h : Heap) (x C t1 : Addr) (mA : Str → Option Value) (ns : List Str) : Option Addr → Prop
  | none => h.get? x = some (excO C t1) ∧ (mA = fun _ => none) ∧ ns = []
  | some dx => h0.objs.size < dx ∧ dx ≠ x ∧ h.get? x = some { cls := .ref C, dict := some dx, data := .fields #[.ref t1, .none, .none, .none, .bool false, .none] } ∧ h.Ns1 dx mA ∧ Within mA ns
def putM : List Str → List Value → (Str → Option Value) → Str → Option Value
  | f :: fs, u :: us, mA => putM fs us (fun y => if y = f then some u else mA y)
  | _, _, mA => mA
section
variable {prog : Program} {w : World} {A : Around} {E : Value → Shared → Prop} {K : Frag} {C : Addr} {env : Env}
theorem kept_but {h h' : Heap} {x : Addr} (X : K.In h) (hx : K.lookup x = none) (k : ∀ b o, b ≠ x → h.get? b = some o → h'.get? b = some o) : K.In h' := fun a o e =>
  k a o (fun z => by rw [z, hx] at e; cases e) (X a o e)
theorem ns1_lt {h : Heap} {dx : Addr} {mA : Str → Option Value} (hn : h.Ns1 dx mA) : dx < h.objs.size := by
  obtain ⟨o, es, ep, ho, rr⟩ := hn
  exact Heap.lt_size ho
theorem sets_run (T : L2.OexC K C) {x t1 L : Addr} {m : Str → Option Value} {h0 : Heap} {Q : Flow → Shared → Prop} (hk : env.scope.kind = .function) (hL : env.locals = L) (hs0 : env.kindOf "self" = some .local) (hmx : m "self" = some (.ref x)) (hLx : L ≠ x) (hnx : K.lookup x = none) (hKl : ∀ a o, K.lookup a = some o → a < h0.objs.size) (hL0 : ∀ dx, h0.objs.size < dx → L ≠ dx) :
    ∀ {fs : List Str} {ss : List Stmt}, Sets fs ss → ∀ (us : List Value) (s : Shared) (d : Option Addr) (mA : Str → Option Value) (ns : List Str), us.length = fs.length → ns.length + fs.length ≤ 900 → (∀ f ∈ fs, env.kindOf f = some .local ∧ (f == ("__debug__" : Str)) = false ∧ findIn K (.ref C) f = some none) → (∀ p ∈ fs.zip us, m p.1 = some p.2) →
      h0.objs.size < s.heap.objs.size → K.In s.heap → s.heap.Ns L m → PartE h0 s.heap x C t1 mA ns d →
      (∀ h' tk d', (∀ b o, b ≠ x → h0.get? b = some o → s.heap.get? b = some o → h'.get? b = some o) → (fs = [] → d' = d) → (∀ z, d = some z → d' = some z) → (fs ≠ [] → d' ≠ none) → PartE h0 h' x C t1 (putM fs us mA) (fs.reverse ++ ns) d' → Q .next { s with heap := h', toks := tk }) →
      wpAny (model prog w) A (execs ss env) Q E s := by
  obtain ⟨nm, qn, N, bs, bm, sn, sub, ab, col, dd, k0, k1, k2, k3, k5, hC, hbm⟩ := T.cls
  have hcl : clsIn K C = some { name := nm, bases := bs, mro := .ref C :: bm, ns := N, qualname := qn, hasDict := true, slotNames := sn, subclasses := sub, abstract := ab, collection := col, hasDel := false } := by unfold clsIn; rw [hC] <;> rfl
  intro fs ss r
  induction r with
  | nil =>
    intro us s d mA ns hl hz hf hm hsz X hn hP hq
    obtain ⟨hp, g, dr, t, os⟩ := s
    have e : us = [] := List.length_eq_zero_iff.mp hl
    subst e
    exact wpAny_execs_nil (hq hp t d (fun b o _ _ h => h) (fun _ => rfl) (fun z h => h) (fun h => absurd rfl h) hP)
  | @cons f fs ss q1 q2 q3 q4 r ih =>
    intro us s d mA ns hl hz hf hm hsz X hn hP hq
    obtain ⟨hp, g, dr, t, os⟩ := s
    cases us with
    | nil => cases hl
    | cons u us =>
      obtain ⟨hf1, hf2, hf3⟩ := hf f (List.mem_cons_self ..)
      have hu : m f = some u := hm (f, u) (by show (f, u) ∈ (f, u) :: fs.zip us; exact List.mem_cons_self ..)
      refine wpAny_execs_cons (plainObj_wpAny_Assign_Attribute ?_ (by rfl))
      refine wpAny_Name (wpAny_loadName_local hk hf1 (by rw [hL]; exact hn) hu ?_) hf2
      refine wpAny_Name (wpAny_loadName_local hk hs0 (by rw [hL]; exact hn) hmx ?_) (by decide)
      have hl' : us.length = fs.length := Nat.succ.inj hl
      have hz' : (f :: ns).length + fs.length ≤ 900 := by simp only [List.length_cons] at hz ⊢; omega
      have hf' : ∀ g ∈ fs, env.kindOf g = some .local ∧ (g == ("__debug__" : Str)) = false ∧ findIn K (.ref C) g = some none := fun g hg => hf g (List.mem_cons_of_mem _ hg)
      have hm' : ∀ p ∈ fs.zip us, m p.1 = some p.2 := fun p hp => hm p (by show p ∈ (f, u) :: fs.zip us; exact List.mem_cons_of_mem _ hp)
      have er : (f :: fs).reverse ++ ns = fs.reverse ++ (f :: ns) := by simp
      cases d with
      | none =>
        obtain ⟨hx, rfl, rfl⟩ := hP
        refine set_plain X (ox := excO C t1) (od := none) ⟨hx, rfl, rfl, trivial⟩ T.sa ?_
        refine exc_osa X hx hcl (show refsVE (.ref C :: bm) = true from hbm) rfl hf3 (fun h3 tk3 dx k3' dn dne hx3 hn3 => ?_)
        have keepL : h3.Ns L m := by
          obtain ⟨oL, es, ep, hoL, rr⟩ := hn
          exact ⟨oL, es, ep, k3' _ _ hLx hoL, rr⟩
        refine ih us ⟨h3, g, dr, tk3, os⟩ (some dx) _ [f] hl' hz' hf' hm' ?_ ?_ keepL ⟨Nat.lt_of_lt_of_le hsz dn, dne, hx3, hn3, ?_⟩ ?_
        · exact Nat.lt_trans (Nat.lt_of_lt_of_le hsz dn) (ns1_lt hn3)
        · exact kept_but X hnx k3'
        · exact Within.cons f u (fun y hy => absurd rfl hy)
        · intro h4 tk4 d4 kk e1 e2 e3 hP4
          refine hq h4 tk4 d4 (fun b o hb h0 h1 => kk b o hb h0 (k3' b o hb h1)) (fun z => by cases z) (fun z h => by cases h) (fun _ z => by rw [e2 dx rfl] at z; cases z) ?_
          rw [er]
          exact hP4
      | some dx =>
        obtain ⟨hdx, dne, hx, hns, hw⟩ := hP
        obtain ⟨oD, esD, epD, hoD, rD⟩ := id hns
        refine set_plain X (ox := { cls := .ref C, dict := some dx, data := .fields #[.ref t1, .none, .none, .none, .bool false, .none] }) (od := some oD) ⟨hx, rfl, rfl, hoD⟩ T.sa ?_
        refine PySem.OEX.osa_old X hx hns hw (by simp only [List.length_cons] at hz; omega) hcl (show refsVE (.ref C :: bm) = true from hbm) rfl hf3 (fun h3 tk3 k3' hn3 => ?_)
        have keepL : h3.Ns L m := by
          obtain ⟨oL, es, ep, hoL, rr⟩ := hn
          exact ⟨oL, es, ep, k3' _ _ (hL0 dx hdx) hoL, rr⟩
        have hdK : K.lookup dx = none := by
          cases e : K.lookup dx with
          | none => rfl
          | some o => exact absurd (hKl _ _ e) (Nat.not_lt.mpr (Nat.le_of_lt hdx))
        refine ih us ⟨h3, g, dr, tk3, os⟩ (some dx) _ (f :: ns) hl' hz' hf' hm' ?_ ?_ keepL ⟨hdx, dne, k3' _ _ (Ne.symm dne) hx, hn3, ?_⟩ ?_
        · exact Nat.lt_trans hdx (ns1_lt hn3)
        · exact kept_but X hdK k3'
        · exact Within.cons f u hw
        · intro h4 tk4 d4 kk e1 e2 e3 hP4
          refine hq h4 tk4 d4 (fun b o hb h0 h1 => kk b o hb h0 (k3' b o (fun z => ?_) h1)) (fun z => by cases z) (fun z h => by cases h; exact e2 dx rfl) (fun _ z => by rw [e2 dx rfl] at z; cases z) ?_
          · rw [z] at h0
            exact absurd (Heap.lt_size h0) (Nat.not_lt.mpr (Nat.le_of_lt hdx))
          · rw [er]
            exact hP4
theorem lookup_mem {k : Str} {v : Value} : ∀ {l : List (Str × Value)}, (l.map (·.1)).Nodup → (k, v) ∈ l → l.lookup k = some v
  | [], _, h => by cases h
  | (a, b) :: l, hn, h => by
    rcases List.mem_cons.mp h with e | h
    · cases e
      simp [List.lookup]
    · have hne : (k == a) = false := by
        have h1 : a ∉ l.map (·.1) := (List.nodup_cons.mp hn).1
        have h2 : k ≠ a := fun z => h1 (by rw [← z]; exact List.mem_map.mpr ⟨_, h, rfl⟩)
        simpa using h2
      simp only [List.lookup, hne]
      exact lookup_mem (List.nodup_cons.mp hn).2 h
theorem lookup_rev {k : Str} {v : Value} {l : List (Str × Value)} (hn : (l.map (·.1)).Nodup) (h : (k, v) ∈ l) : l.reverse.lookup k = some v :=
  lookup_mem (by rw [List.map_reverse]; exact List.pairwise_reverse.mpr (hn.imp fun h => Ne.symm h)) (List.mem_reverse.mpr h)
/-- what the text of the __init__ is -/
structure IS (q : Str) (params : Arguments) (body : List Stmt) (scope : Scope) (fs : List Str) : Prop where
  bd : ∃ (text : Str) (j : Nat) (p0 p1 p2 p3 p4 p5 : Pos) (ss : List Stmt), body = supS text j p0 p1 p2 p3 p4 p5 :: ss ∧ Sets fs ss ∧
    (∀ (L fI cda cc : Addr), (∃ pl : Sem Bool, eval (.Call (.Attribute (.Call (.Name "super" p0) [] [] p1) "__init__" p2) [.Constant (.str text) j p3] [] p4) (ksEnv q scope L fI (.ref cda) cc) = (do
      let ov ← attributeBase (.Call (.Name "super" p0) [] [] p1) "__init__" (ksEnv q scope L fI (.ref cda) cc) (eval (.Call (.Name "super" p0) [] [] p1) (ksEnv q scope L fI (.ref cda) cc))
      standAt p2.atName
      let (f, first) ← holding [ov] (getMethod ov "__init__" pl)
      callWith p4 f first (backTo p4 (starEach [.Constant (.str text) j p3] (ksEnv q scope L fI (.ref cda) cc))) [])) ∧
      interactive (ksEnv q scope L fI (.ref cda) cc) = false ∧ swapsWith (.Call (.Attribute (.Call (.Name "super" p0) [] [] p1) "__init__" p2) [.Constant (.str text) j p3] [] p4) none p5.line (ksEnv q scope L fI (.ref cda) cc) = pure false)
  bind : ∀ (kV doc pm : Value) (an : Option Addr) (cda : Addr) (ct : Value) (cc : Addr) (us : List Value), us.length = ("self" :: fs : List Str).length → bindArgs (ksFn "__init__" q params body scope .none kV doc pm an (.ref cda) ct cc) ⟨us, []⟩ = pure (("self" :: fs : List Str).zip us)
  hd : ∃ ar : Arg, (params.posonlyargs ++ params.args).head? = some ar ∧ ar.arg = "self"
  nd : ("self" :: fs : List Str).Nodup
  loc : ∀ f ∈ ("self" :: fs : List Str), scope.names.lookup f = some .local ∧ (f == ("__debug__" : Str)) = false
  cell : ∀ x ∈ scope.names, x.2 ≠ .cell
  co : scope.isCoroutine = false
  gen : scope.isGenerator = false
  k : scope.kind = .function
  hks : scope.names.lookup ("super" : Str) = some .globalImplicit
  hkc : scope.names.lookup ("__class__" : Str) = some .free
  few : fs.length ≤ 900
  some_ : fs ≠ []
theorem err_init {R : Result → Shared → Prop} {s : Shared} {fI : Addr} {q : Str} {params : Arguments} {body : List Stmt} {scope : Scope} {fs : List Str} {mg mb : Str → Option Value} (T : ErC prog K C fI q params body scope) (S : IS q params body scope fs) (hno : ∀ f ∈ fs, findIn K (.ref C) f = some none) {x t0 : Addr} {us : List Value} (X : K.In s.heap) (hlim : s.heap.NoLimit)
    (hx : s.heap.get? x = some (excO C t0)) (hnx : K.lookup x = none) (G : s.heap.Ns mainGlobals mg) (Gb : s.heap.Ns builtinsNs mb) (hb : mb "super" = bootBuiltins "super") (hroom : A.depth < recursionLimit) (hl : us.length = fs.length)
    (hq : ∀ h' tk t1 d, (∀ b o, b ≠ x → s.heap.get? b = some o → h'.get? b = some o) → PartE s.heap h' x C t1 (putM fs us (fun _ => none)) (fs.reverse ++ []) (some d) → R (.ok (.ret .none)) { s with heap := h', toks := tk }) :
    codeAny (model prog w) A (.call (.ref fI) ⟨.ref x :: us, []⟩) R s := by
  obtain ⟨oc, od, kV, doc, pm, an, cda, ct, cc, osl, ccl, cdd, vs, ccs, file, tf, cl, cld, csl, lf, hcd, lc, hvs, hfile, lcc⟩ := T.fn
  obtain ⟨text, j, p0, p1, p2, p3, p4, p5, ss, eb, hss, hev⟩ := S.bd
  obtain ⟨ar, har, earg⟩ := S.hd
  have hKl : ∀ a o, K.lookup a = some o → a < s.heap.objs.size := fun a o e => Heap.lt_size (X _ _ e)
  have hkeys : ((("self" :: fs : List Str).zip (.ref x :: us)).map (·.1)).Nodup := by
    rw [List.map_fst_zip (by show fs.length + 1 ≤ us.length + 1; omega)]
    exact S.nd
  obtain ⟨⟨pl, he⟩, hi, hsw⟩ := hev s.heap.objs.size fI cda cc
  have hmg : mg "super" = none := PySem.W.mg_none_of X G T.sg
  refine ks_codeAny_call_defAt (fd := ksFn "__init__" q params body scope .none kV doc pm an (.ref cda) ct cc) (body := body) (binds := ("self" :: fs : List Str).zip (.ref x :: us)) hroom (X _ _ lf) rfl hlim (codeRec_of X hcd) rfl
    (BindsTo.of_eq (S.bind _ _ _ _ _ _ _ _ (by show us.length + 1 = fs.length + 1; omega))) S.cell (fun y hy => (S.loc y.1 (by
      obtain ⟨y1, y2⟩ := y
      exact (List.of_mem_zip hy).1)).1) (fun h₁ hns hk₁ => ?_) S.co S.gen S.k
  have X₁ : K.In h₁ := X.keeps hk₁
  have hself : (("self" :: fs : List Str).zip (Value.ref x :: us)).reverse.lookup ("self" : Str) = some (Value.ref x) := lookup_rev hkeys (by show _ ∈ (("self" : Str), Value.ref x) :: fs.zip us; exact List.mem_cons_self ..)
  show _root_.PySem.wpAt _ _ (.func body (ksEnv q scope s.heap.objs.size fI (.ref cda) cc)) (execs body (ksEnv q scope s.heap.objs.size fI (.ref cda) cc)) _ _ _
  subst eb
  refine ks_wpAt_execs_cons ?_
  refine sup_stmt T lf lc hvs hfile lcc X₁ (G.at fun o q => hk₁ _ _ q) hmg (Gb.at fun o q => hk₁ _ _ q) hb hns (ar := ar) (by rw [earg]; exact hself) (hk₁ _ _ hx) har S.hks S.hkc (by rw [earg]; exact (S.loc "self" (List.mem_cons_self ..)).1) S.k he hi hsw (fun h2 tk2 t1 hns2 k2 hx2 => ?_)
  refine wpAt_of_wpAny ?_
  have L1 : s.heap.objs.size < h₁.objs.size := hns.lt
  refine sets_run (env := ksEnv q scope s.heap.objs.size fI (.ref cda) cc) (h0 := s.heap) T.x S.k rfl (S.loc "self" (List.mem_cons_self ..)).1 hself (Nat.ne_of_gt (Heap.lt_size hx)) hnx hKl (fun dx h => Nat.ne_of_lt h) hss us _ none (fun _ => none) [] hl (by simpa using S.few) (fun f hf => ⟨(S.loc f (List.mem_cons_of_mem _ hf)).1, (S.loc f (List.mem_cons_of_mem _ hf)).2, hno f hf⟩)
    (fun p hp => lookup_rev hkeys (by show p ∈ (("self" : Str), Value.ref x) :: fs.zip us; exact List.mem_cons_of_mem _ hp)) ?_ (kept_but X₁ hnx k2) hns2 ⟨hx2, rfl, rfl⟩ ?_
  · exact hns2.lt
  · intro h' tk d' kk e1 e2 e3 hP
    cases d' with
    | none => exact absurd rfl (e3 S.some_)
    | some d => exact hq h' tk t1 d (fun b o hb h0 => kk b o hb h0 (k2 b o hb (hk₁ b o h0))) hP
/-- C(u, ..): what is left -/
structure Made (h h' : Heap) (e C d : Addr) (mA : Str → Option Value) : Prop where
  keep : ∀ b o, h.get? b = some o → h'.get? b = some o
  new : h.objs.size ≤ e
  obj : ∃ oe vs, h'.get? e = some oe ∧ oe.cls = .ref C ∧ oe.dict = some d ∧ oe.data = .fields vs ∧ vs[1]? = some .none ∧ vs[2]? = some .none ∧ 4 < vs.size
  dbig : h.objs.size ≤ d
  dne : d ≠ e
  ns : h'.Ns1 d mA
theorem err_made {R : Result → Shared → Prop} {s : Shared} {fI : Addr} {q : Str} {params : Arguments} {body : List Stmt} {scope : Scope} {fs : List Str} {mg mb : Str → Option Value} (T : ErC prog K C fI q params body scope) (S : IS q params body scope fs) (hno : ∀ f ∈ fs, findIn K (.ref C) f = some none) {us : List Value} (X : K.In s.heap) (hlim : s.heap.NoLimit)
    (G : s.heap.Ns mainGlobals mg) (Gb : s.heap.Ns builtinsNs mb) (hb : mb "super" = bootBuiltins "super") (hroom : A.depth + 1 < recursionLimit) (hl : us.length = fs.length)
    (hq : ∀ h' tk e d, Made s.heap h' e C d (putM fs us (fun _ => none)) → R (.ok (.ret (.ref e))) { s with heap := h', toks := tk }) :
    codeAny (model prog w) A (.call (.ref C) ⟨us, []⟩) R s := by
  obtain ⟨nm, qn, N, bs, bm, sn, sub, ab, col, dd, k0, k1, k2, k3, k5, hC, hbm⟩ := T.x.cls
  obtain ⟨hp, g, dr, tk, os⟩ := s
  have k : ∀ b o, hp.get? b = some o → ((hp.push (kdv_tup us)).push (excO C hp.objs.size)).get? b = some o := fun b o e => Heap.get?_push_of_some _ (Heap.get?_push_of_some _ e)
  have hget : ((hp.push (kdv_tup us)).push (excO C hp.objs.size)).get? (hp.objs.size + 1) = some (excO C hp.objs.size) := by heap_get
  have hnx : K.lookup (hp.objs.size + 1) = none := by
    cases e : K.lookup (hp.objs.size + 1) with
    | none => rfl
    | some o =>
      have z : hp.get? (hp.objs.size + 1) = some o := X _ _ e
      exact absurd (Nat.lt_of_succ_lt (Heap.lt_size z)) (Nat.lt_irrefl _)
  refine call_own PySem.F.excBase_ValueError (fun X => refsVE_contains X bm hbm) (X _ _ hC) (looks_findIn X T.iC) (fun self => bind_fn X self T.tC) (by rw [hl, sizeLine_eq]; exact Nat.le_trans S.few (by decide)) ?_
  refine err_init (s := ⟨(hp.push (kdv_tup us)).push (excO C hp.objs.size), g, dr, tk, os⟩) T S hno (X.keeps k) (hlim.keeps k) hget hnx (G.at fun o q => k _ _ q) (Gb.at fun o q => k _ _ q) hb ?_ hl fun h' tk' t1 d k' hP => ?_
  · show A.depth + 1 < recursionLimit
    exact hroom
  · obtain ⟨hd, dne, hx, hns, _⟩ := hP
    have old : ∀ b o, hp.get? b = some o → h'.get? b = some o := fun b o e => k' b o (Nat.ne_of_lt (Nat.lt_succ_of_lt (Heap.lt_size e))) (k b o e)
    have z : hp.objs.size + 1 + 1 < d := by
      have q := hd
      first
        | (simpa only [Heap.size_push] using q)
        | exact q
    have z2 : hp.objs.size ≤ d := by omega
    exact ⟨rfl, hq h' tk' (hp.objs.size + 1) d ⟨old, Nat.le_succ _, ⟨_, _, hx, rfl, rfl, rfl, rfl, rfl, Nat.lt_succ_of_lt (Nat.lt_succ_self 4)⟩, z2, dne, hns⟩⟩
end
end OwnE
end PySem
namespace Gl
open PySem PySem.Spec PyProof.Rows L2
open PySem.OwnE (ErC IS putM)
/-- an error's dict: the fields, stored one behind another -/
def putL : List Str → List V → List (Str × V) → List (Str × V)
  | f :: fs, v :: vs, l => putL fs vs ((f, v) :: l)
  | _, _, l => l
theorem relO_putL : ∀ {fs : List Str} {vs : List V} {us : List Value} {l : List (Str × V)} {mA : Str → Option Value}, Vals vs us → (∀ g, RelO (l.lookup g) (mA g)) → ∀ g, RelO ((putL fs vs l).lookup g) (putM fs us mA g)
  | [], _, _, _, _, _, h => by
    intro g
    unfold putL putM
    exact h g
  | f :: fs, _, _, l, mA, .nil, h => by
    intro g
    unfold putL putM
    exact h g
  | f :: fs, _, _, l, mA, .cons r rs, h => relO_putL (fs := fs) rs (relO_put r h)
/-- C(e, ..) of an own error class: its dict is new -/
def tErr (C : Addr) (fs : List Str) (ta : TA) : L2.St → Hp → XK → Prop := fun σ H Q => ta σ H fun vs H1 => vs.length = fs.length ∧ ∀ d, H1 d = none → Q (.ref C) (some d) (upd H1 d (.xd (putL fs vs [])))
section
variable {X : Cx} {C fI : Addr} {q : Str} {params : Arguments} {body : List Stmt} {scope : Scope} {fs : List Str}
theorem pmk_err {x : Str} {a : Expr} {as : List Expr} {ta : TA} {p pos : Pos} {k : Nat} (T : ErC X.prog X.K C fI q params body scope) (S : IS q params body scope fs) (hno : ∀ f ∈ fs, PySem.W.findIn X.K (.ref C) f = some none) (gC : X.mg x = some (.ref C)) (kC : PySem.W.keepIn X.K (.ref C) = true) (hr : Room (k + 1) X.A) (hg : Gl X x)
    (ha : PA X (a :: as) ta) (hdb : (x == ("__debug__" : Str)) = false := by decide)
    (he : starEach (a :: as) X.env = (false, eval a X.env) :: starEach as X.env := by rfl) (hpl : (backTo pos (starEach as X.env)).any (·.1) = false := by rfl) :
    PMk X (.Call (.Name x p) (a :: as) [] pos) (tErr C fs ta) := by
  intro pins s σ H Q I h
  refine wpAny_Call_Name_kw (ld_glob I hg gC ?_ hdb)
  refine PySem.W.callWith_K (h₀ := X.base) I.ok.mod.kin kC (thn (ha.run pos pins s σ H _ I h) fun us s1 hh => ?_) he hpl
  obtain ⟨vs, H1, I1, r1, hl, q1⟩ := hh
  refine ⟨I1.kIn, ?_⟩
  show wpAny _ _ (call (.ref C) us) _ _ _
  have hlim := I1.nolimit
  obtain ⟨mb, Gb, hmb⟩ := I1.ok.mod.blt
  have hG : s1.heap.Ns mainGlobals X.mg := I1.ok.mod.glob.keeps I1.bk
  have hB : s1.heap.Ns builtinsNs mb := Gb.keeps I1.bk
  obtain ⟨hp, g, dr, tk, os⟩ := s1
  refine wpAny_call (PySem.OwnE.err_made T S hno I1.kIn hlim hG hB (hmb _ (by decide)) (by have := hr.dp; omega) (by rw [← r1.length]; exact hl) fun h' tk' e d M => ?_)
  show MkP X pins σ Q (.ref e) ⟨h', g, dr, tk', os⟩
  obtain ⟨oe, fv, hoe, hc, hd, hdat, h1, _, _⟩ := M.obj
  have hns := M.ns
  obtain ⟨G', g1, g2⟩ := restrict h' fun b => decide (b ≠ e)
  have gk : ∀ b, b ≠ e → G'.get? b = h'.get? b := fun b hb => g1 b (decide_eq_true hb)
  have ge : G'.get? e = none := g2 e (by simp)
  have old : ∀ b o, hp.get? b = some o → G'.get? b = some o := fun b o q => (gk b (Nat.ne_of_lt (Nat.lt_of_lt_of_le (Heap.lt_size q) M.new))).trans (M.keep b o q)
  have ob : ObjOk X.prog X.w (upd H1 d (.xd (putL fs vs []))) G' d (.xd (putL fs vs [])) :=
    ⟨_, hns.at (fun o q => (gk d M.dne).trans q), relO_putL r1 fun g => trivial⟩
  have J : Inv X pins σ (upd H1 d (.xd (putL fs vs []))) ⟨G', g, dr, tk', os⟩ := I1.laid (t' := tk') old M.dbig ob
  refine ⟨e, oe, fv, ⟨G', g, dr, tk', os⟩, _, .ref C, some d, rfl, J, fun b o q => ?_, ge, hoe, ⟨hc, hd⟩, hdat, h1, ?_, rfl, I1.bare, raises_own T.x.exC T.x.tyC, q1 d (I1.hok.fresh M.dbig)⟩
  · by_cases hb : b = e
    · have q' : G'.get? b = some o := q
      rw [hb, ge] at q'; cases q'
    · exact (gk b hb).symm.trans q
  · rw [upd_ne (Ne.symm M.dne)]
    exact I1.hok.fresh M.new
end
end Gl
namespace Gl
open PySem PySem.Spec PyProof.Rows L2
open PySem.OwnE (ErC IS putM)
open He (ga ma)
/-! ## own errors: what the head says of them -/
def ccOf (K : PySem.W.Frag) (x : Str) : Addr := match K.lookup (ma K (ga K x) "__init__") with
  | some ⟨_, _, .func fd, _⟩ => (match fd.closure with
    | [p] => p.2
    | _ => 0)
  | _ => 0
def clsE (K : PySem.W.Frag) (C : Addr) : Bool := match K.lookup C with
  | some ⟨.type t, _, .cls cd, sl⟩ => decide (t = "type") && ((match cd.mro, sl.toList with
    | .ref C' :: bm, [_, _, _, _, some (.builtin n), _] => decide (C' = C) && (decide (n = "ValueError.__new__") && (!cd.hasDel && (cd.hasDict && PySem.HandSPX.refsVE bm)))
    | _, _ => false))
  | _ => false
theorem clsE_ok {K : PySem.W.Frag} {C : Addr} (h : clsE K C = true) : ∃ nm q N bs bm sn sub ab col dd k0 k1 k2 k3 k5, K.lookup C = some (excClassObj nm q C N bs bm true sn sub ab col dd k0 k1 k2 k3 k5 "ValueError.__new__") ∧ PySem.HandSPX.refsVE bm = true := by
  unfold clsE at h
  split at h
  · rename_i t dd cd sl ho
    obtain ⟨h0, h⟩ := He.ba h
    split at h
    · rename_i C' bm k0 k1 k2 k3 n k5 hm hs
      obtain ⟨h1, h⟩ := He.ba h
      obtain ⟨h2, h⟩ := He.ba h
      obtain ⟨h3, h⟩ := He.ba h
      obtain ⟨h4, h5⟩ := He.ba h
      have e1 := of_decide_eq_true h1
      have e2 := of_decide_eq_true h2
      have e0 := of_decide_eq_true h0
      subst e1 e2 e0
      obtain ⟨nm, bs, mro, ns, qn, hd, sn, sub, ab, col, del⟩ := cd
      dsimp only at hm h3 h4
      have h3' : del = false := by simpa using h3
      subst hm h3' h4
      have hsl : sl = #[k0, k1, k2, k3, some (.builtin "ValueError.__new__"), k5] := by
        obtain ⟨l⟩ := sl
        simp only at hs
        rw [hs]
      subst hsl
      exact ⟨_, _, _, _, _, _, _, _, _, _, _, _, _, _, _, ho, h5⟩
    · cases h
  · cases h
def fnE (P : Program) (K : PySem.W.Frag) (x q : Str) : Bool := match K.lookup (ma K (ga K x) "__init__") with
  | some ⟨_, _, .func fd, _⟩ => PySem.W.codeIn K fd.code q && ((decide (fd.defaults = .none)) && (match fd.code with
    | .ref cda => (match K.lookup cda with
      | some ⟨_, _, .fields vs, _⟩ => (match (vs[2]? : Option Value) with
        | some (Value.str file _) => ((P.main.file : Str) == file)
        | _ => false)
      | _ => false)
    | _ => false) && (match K.lookup (ccOf K x) with
      | some ⟨_, _, .cell (some (.ref D)), _⟩ => decide (D = ga K x)
      | _ => false))
  | _ => false
def errB (P : Program) (K : PySem.W.Frag) (x q : Str) (fs : List Str) : Bool :=
  clsE K (ga K x) && (He.eqO (PySem.W.findIn K (.ref (ga K x)) "__setattr__") (some (some (.builtin "object.__setattr__"))) && (decide (PySem.W.subIn K (.ref (ga K x)) (.type "BaseException") = some true) && (decide (PySem.W.typeIn K (.ref (ga K x)) = some (.type "type")) && (PySem.W.keepIn K (.ref (ga K x)) &&
  (He.eqO (PySem.W.findIn K (.ref (ga K x)) "__init__") (some (some (.ref (ma K (ga K x) "__init__")))) && (decide (PySem.W.typeIn K (.ref (ma K (ga K x) "__init__")) = some (.type "function")) && (He.eqO (PySem.W.ks_superIn K (ga K x) (ga K x) "__init__") (some (some (.builtin "ValueError.__init__"))) &&
  (decide (PySem.W.subIn K (.ref (ga K x)) (.type "ValueError") = some true) && (decide (PySem.W.mroIn K (ga K x) (.ref (ga K x)) = some true) && (He.eqO (PySem.W.nsIn K cStatics "thirdparty.any") (some none) && (He.eqO (PySem.W.nsIn K mainGlobals "super") (some none) && (!(P.main.scope.names.lookup ("super" : Str)).isSome &&
  (fs.all (fun f => He.eqO (PySem.W.findIn K (.ref (ga K x)) f) (some none)) && (fnE P K x q &&
  (He.eqO (PySem.W.findIn K (.ref (ga K x)) "__getattribute__") (some (some (.builtin "BaseException.__getattribute__"))) && (He.eqO (PySem.W.findIn K (.ref (ga K x)) "__getattr__") (some none) && (PySem.W.hasDictIn K (ga K x) && He.eqO (PySem.W.nsIn K mainGlobals x) (some (some (.ref (ga K x)))))))))))))))))))))
/-- what is known of the own error class x -/
structure Er (P : Program) (K : PySem.W.Frag) (mg : Str → Option Value) (x q : Str) (params : Arguments) (body : List Stmt) (scope : Scope) (fs : List Str) : Prop where
  c : ErC P K (ga K x) (ma K (ga K x) "__init__") q params body scope
  no : ∀ f ∈ fs, PySem.W.findIn K (.ref (ga K x)) f = some none
  xf : XfC K (ga K x)
  g : mg x = some (.ref (ga K x))
  k : PySem.W.keepIn K (.ref (ga K x)) = true
theorem er_ok {P : Program} {K : PySem.W.Frag} {h : Heap} {mg : Str → Option Value} {x q : Str} {params : Arguments} {body : List Stmt} {scope : Scope} {fs : List Str} (X : K.In h) (G : h.Ns mainGlobals mg) (c : errB P K x q fs = true)
    (e : He.fnW K (x, some "__init__") = some (("__init__" : Str), q, params, FuncBody.stmts body, scope, mainGlobals, [(("__class__" : Str), ccOf K x)], builtinsNs)) : Er P K mg x q params body scope fs := by
  unfold errB at c
  obtain ⟨c1, c⟩ := He.ba c
  obtain ⟨c2, c⟩ := He.ba c
  obtain ⟨c3, c⟩ := He.ba c
  obtain ⟨c4, c⟩ := He.ba c
  obtain ⟨c5, c⟩ := He.ba c
  obtain ⟨c6, c⟩ := He.ba c
  obtain ⟨c7, c⟩ := He.ba c
  obtain ⟨c8, c⟩ := He.ba c
  obtain ⟨c9, c⟩ := He.ba c
  obtain ⟨c10, c⟩ := He.ba c
  obtain ⟨c11, c⟩ := He.ba c
  obtain ⟨c12, c⟩ := He.ba c
  obtain ⟨c13, c⟩ := He.ba c
  obtain ⟨c14, c⟩ := He.ba c
  obtain ⟨c15, c⟩ := He.ba c
  obtain ⟨c16, c⟩ := He.ba c
  obtain ⟨c17, c⟩ := He.ba c
  obtain ⟨c18, c19⟩ := He.ba c
  have d3 := of_decide_eq_true c3
  have d4 := of_decide_eq_true c4
  refine ⟨⟨⟨clsE_ok c1, He.eqO_ok c2, d3, d4, c5⟩, He.eqO_ok c6, of_decide_eq_true c7, He.eqO_ok c8, of_decide_eq_true c9, of_decide_eq_true c10, He.eqO_ok c11, He.eqO_ok c12, by simpa using c13, ?_⟩,
    fun f hf => He.eqO_ok (List.all_eq_true.mp c14 f hf), ⟨He.eqO_ok c16, He.eqO_ok c17, d3, c18⟩, PySem.W.mg_of X G (He.eqO_ok c19), c5⟩
  unfold fnE at c15
  unfold He.fnW at e
  have ea : He.fAd K (x, some "__init__") = ma K (ga K x) "__init__" := rfl
  rw [ea] at e
  cases hl : K.lookup (ma K (ga K x) "__init__") with
  | none =>
    rw [hl] at e
    cases e
  | some o =>
    obtain ⟨oc, od, dt, osl⟩ := o
    rw [hl] at c15 e
    cases dt with
    | func fd =>
      obtain ⟨n1, n2, n3, n4, n5, n6, n7, n8, n9, n10, n11, n12, n13, n14, n15⟩ := fd
      have e2 : (some (n1, n2, n3, n4, n5, n6, n7, n15) : He.FnW) = some (("__init__" : Str), q, params, FuncBody.stmts body, scope, mainGlobals, [(("__class__" : Str), ccOf K x)], builtinsNs) := e
      simp only [Option.some.injEq, Prod.mk.injEq] at e2
      obtain ⟨h1, h2, h3, h4, h5, h6, h7, h8⟩ := e2
      subst h1 h2 h3 h4 h5 h6 h7 h8
      dsimp only at c15
      obtain ⟨k1, k2⟩ := He.ba c15
      obtain ⟨k3, k4⟩ := He.ba k2
      obtain ⟨k0, k3⟩ := He.ba k3
      have k0 : n8 = Value.none := of_decide_eq_true k0
      subst k0
      cases n13 with
      | ref cda =>
        dsimp only at k3
        cases hc : K.lookup cda with
        | none =>
          rw [hc] at k3
          cases k3
        | some oc2 =>
          obtain ⟨ccl, cdd, cdt, ccs⟩ := oc2
          rw [hc] at k3
          cases cdt with
          | fields vs =>
            dsimp only at k3
            cases hv : vs[2]? with
            | none =>
              rw [hv] at k3
              cases k3
            | some v =>
              rw [hv] at k3
              cases v with
              | str file tf =>
                cases hcc : K.lookup (ccOf K x) with
                | none =>
                  rw [hcc] at k4
                  cases k4
                | some o3 =>
                  obtain ⟨cl, cld, cdt3, csl⟩ := o3
                  rw [hcc] at k4
                  cases cdt3 with
                  | cell u =>
                    cases u with
                    | none => cases k4
                    | some u =>
                      cases u with
                      | ref D =>
                        have eD : D = ga K x := of_decide_eq_true k4
                        rw [eD] at hcc
                        exact ⟨oc, od, n9, n10, n11, n12, cda, n14, ccOf K x, osl, ccl, cdd, vs, ccs, file, tf, cl, cld, csl, rfl, k1, hc, hv, k3, hcc⟩
                      | _ => cases k4
                  | _ => cases k4
              | _ => cases k3
          | _ => cases k3
      | _ => cases k3
    | _ => cases c15
end Gl
namespace Gl
open PySem PySem.Spec PyProof.Rows L2
/-! ## options as data -/
/-- a datum that is not None -/
class NotNone {α : Type} {A : R α} (D : Dat A) : Prop where
  l : ∀ a, PyData.eqv (D.d a) .none = false
  r : ∀ a, PyData.eqv .none (D.d a) = false
instance : NotNone dI := ⟨fun _ => rfl, fun _ => rfl⟩
instance : NotNone dB := ⟨fun _ => rfl, fun _ => rfl⟩
instance : NotNone dS := ⟨fun _ => rfl, fun _ => rfl⟩
instance {α : Type} {A : R α} {D : Dat A} : NotNone (dL D) := ⟨fun _ => rfl, fun _ => rfl⟩
instance {α : Type} {A : R α} {D : Dat A} : NotNone (dT D) := ⟨fun _ => rfl, fun _ => rfl⟩
instance {α β : Type} {A : R α} {B : R β} {D : Dat A} {E : Dat B} : NotNone (d2 D E) := ⟨fun _ => rfl, fun _ => rfl⟩
def dO {α : Type} {A : R α} (D : Dat A) [N : NotNone D] : Dat (qO A) := ⟨fun
    | none => .none
    | some a => D.d a, fun {K F v a} h => by
    cases a with
    | none => cases (show v = .non from h); exact .non
    | some a => exact D.dp h, fun a b => by
    cases a with
    | none => cases b with
      | none => simp [PyData.eqv]
      | some b =>
        show PyData.eqv .none (D.d b) = true ↔ _
        rw [N.r b]; simp
    | some a => cases b with
      | none =>
        show PyData.eqv (D.d a) .none = true ↔ _
        rw [N.l a]; simp
      | some b =>
        show PyData.eqv (D.d a) (D.d b) = true ↔ _
        rw [D.eq]; simp⟩

/-! ## o.m(..), whatever class o is of: the answer names it -/
def MOk (X : Cx) (m : Str) (C : Addr) (sp : Sp) (E : XK) : Prop := ∃ (f : Addr) (k : Nat) (fd : FuncData) (ps : List Str) (CX : CXT), Cls X.K C ∧ Meth X.K C m f ∧ FnOk X.prog X.w X.K X.mg X.base CX k f fd ps sp ∧ Room k X.A ∧ Binds X.K fd ps [] ∧ Passes CX X E
def mvK (X : Cx) (m : Str) (E : XK) (t : (List V → Hp → Prop) → Hp → Prop) (Q : VK) : VK := fun x H1 => ∃ a dx fs C sp, x = .ref a ∧ H1 a = some (.ins C dx fs) ∧ fs.lookup m = none ∧ MOk X m C sp E ∧ t (fun vs H2 => sp (x :: vs) H2 Q E) H1
/-! ## patterns -/
inductive Pat where
  | form (ps : List Str) | both (l r : Pat) | either (l r : Pat)
  deriving DecidableEq
def Pat.forms : Pat → List (List Str)
  | .form ps => [ps]
  | .both l r => l.forms ++ r.forms
  | .either l r => l.forms ++ r.forms
def Pat.ht : Pat → Nat
  | .form _ => 0
  | .both l r => max l.ht r.ht + 1
  | .either l r => max l.ht r.ht + 1
/-- what a class must show for & | of its own -/
def ownOpB (K : PySem.W.Frag) (x : Str) (nm : String) (f : Addr) : Bool := PySem.W.selfFirst K (He.ga K x) && (He.eqO (PySem.W.findIn K (.ref (He.ga K x)) (PySem.dunder nm)) (some (some (.ref f))) && (PySem.W.isFn K (.ref f) && He.eqO (PySem.W.findIn K (.ref (He.ga K x)) (dunderR nm)) (some none)))
theorem ownOpB_ok {K : PySem.W.Frag} {x : Str} {nm : String} {f : Addr} (h : ownOpB K x nm f = true) : OwnOp K (He.ga K x) nm f := by
  unfold ownOpB at h
  obtain ⟨h1, h⟩ := He.ba h
  obtain ⟨h2, h⟩ := He.ba h
  obtain ⟨h3, h4⟩ := He.ba h
  exact ⟨h1, He.eqO_ok h2, h3, He.eqO_ok h4⟩
/-- classes x and y: the same, or y is not below x -/
def apartB (K : PySem.W.Frag) (x y : Str) : Bool := decide (He.ga K x = He.ga K y) || decide (PySem.W.subIn K (.ref (He.ga K y)) (.ref (He.ga K x)) = some false)
theorem apartB_ok {K : PySem.W.Frag} {x y : Str} (h : apartB K x y = true) : He.ga K x = He.ga K y ∨ PySem.W.subIn K (.ref (He.ga K y)) (.ref (He.ga K x)) = some false := by
  unfold apartB at h
  rcases Bool.or_eq_true_iff.mp h with h | h
  · exact .inl (of_decide_eq_true h)
  · exact .inr (of_decide_eq_true h)
def isaB (K : PySem.W.Frag) (x y : Str) (b : Bool) : Bool := decide (PySem.W.kitOne K (.ref (He.ga K x)) (.ref (He.ga K y)) = some b)
theorem isaB_ok {K : PySem.W.Frag} {x y : Str} {b : Bool} (h : isaB K x y b = true) : PySem.W.kitOne K (.ref (He.ga K x)) (.ref (He.ga K y)) = some b := of_decide_eq_true h

def qForm : R (List Str) := ⟨fun K F v a => ∃ (p dx : Addr) (u0 : V), v = .ref p ∧ F p = some (.ins (He.ga K "Form") dx [("pieces", u0)]) ∧ (qT qS).r K F u0 a, fun e ⟨p, dx, u0, h1, h2, k0⟩ => ⟨p, dx, u0, h1, e _ _ h2, (qT qS).mono e k0⟩⟩
def qPatR (K : PySem.W.Frag) (F : Hp) : V → Pat → Prop
  | v, .form ps => qForm.r K F v ps
  | v, .both l r => ∃ (p dx : Addr) (u w : V), v = .ref p ∧ F p = some (.ins (He.ga K "Both") dx [("left", u), ("right", w)]) ∧ qPatR K F u l ∧ qPatR K F w r
  | v, .either l r => ∃ (p dx : Addr) (u w : V), v = .ref p ∧ F p = some (.ins (He.ga K "Either") dx [("left", u), ("right", w)]) ∧ qPatR K F u l ∧ qPatR K F w r
theorem qPatR_mono {K : PySem.W.Frag} {F F' : Hp} (e : Same F F') : ∀ {v : V} {a : Pat}, qPatR K F v a → qPatR K F' v a
  | _, .form _, h => qForm.mono e h
  | _, .both _ _, ⟨p, dx, u, w, h1, h2, h3, h4⟩ => ⟨p, dx, u, w, h1, e _ _ h2, qPatR_mono e h3, qPatR_mono e h4⟩
  | _, .either _ _, ⟨p, dx, u, w, h1, h2, h3, h4⟩ => ⟨p, dx, u, w, h1, e _ _ h2, qPatR_mono e h3, qPatR_mono e h4⟩
def qPat : R Pat := ⟨fun K F v a => qPatR K F v a, fun e h => qPatR_mono e h⟩
def Pat.cls : Pat → Str
  | .form _ => "Form"
  | .both _ _ => "Both"
  | .either _ _ => "Either"
def patN {α : Type} (n : Nat) (a : Pat) (x : Option α) : Option α := gd (decide (a.ht ≤ n)) <| gd (decide (a.forms.length ≤ 16)) x
theorem patN_some {α : Type} {n : Nat} {a : Pat} {x : Option α} {r : α} (h : patN n a x = some r) : a.ht ≤ n ∧ a.forms.length ≤ 16 ∧ x = some r := by
  obtain ⟨h1, h⟩ := gd_some h
  obtain ⟨h2, h⟩ := gd_some h
  exact ⟨of_decide_eq_true h1, of_decide_eq_true h2, h⟩
theorem patN_of {α : Type} {n : Nat} {a : Pat} {x : Option α} (h1 : a.ht ≤ n) (h2 : a.forms.length ≤ 16) : patN n a x = x := by
  unfold patN
  rw [gd_true (decide_eq_true h1), gd_true (decide_eq_true h2)]
def isPatC (x : Str) : Prop := x = "Form" ∨ x = "Both" ∨ x = "Either"
theorem Pat.isC (a : Pat) : isPatC a.cls := by
  cases a with
  | form => exact .inl rfl
  | both => exact .inr (.inl rfl)
  | either => exact .inr (.inr rfl)
/-- a method of all three classes: what each keeps -/
structure VM (P : Program) (w : World) (K : PySem.W.Frag) (mg : Str → Option Value) (base : Heap) (k : Nat) (m : Str) (ps : List Str) (sp : Str → Sp) : Prop where
  go : ∀ x, isPatC x → Cls K (He.ga K x) ∧ Meth K (He.ga K x) m (He.fAd K (x, some m)) ∧ FnOk P w K mg base CX0 k (He.fAd K (x, some m)) (fdOf K (x, some m)) ps (sp x) ∧ Binds K (fdOf K (x, some m)) ps []
theorem qPat_ins {K : PySem.W.Frag} {F H : Hp} {v : V} {a : Pat} (r : qPat.r K F v a) (s : Same F H) : ∃ p dx fs, v = .ref p ∧ H p = some (.ins (He.ga K a.cls) dx fs) ∧ ∀ m : Str, m ≠ "pieces" → m ≠ "left" → m ≠ "right" → fs.lookup m = none := by
  cases a with
  | form ps =>
    obtain ⟨p, dx, u0, h1, h2, _⟩ := (show qForm.r K F v ps from r)
    exact ⟨p, dx, _, h1, s _ _ h2, fun m n1 n2 n3 => by simp [List.lookup, beq_eq_false_iff_ne.mpr n1]⟩
  | both l r' =>
    obtain ⟨p, dx, u, w, h1, h2, _⟩ := (show qPatR K F v (.both l r') from r)
    exact ⟨p, dx, _, h1, s _ _ h2, fun m n1 n2 n3 => by simp [List.lookup, beq_eq_false_iff_ne.mpr n2, beq_eq_false_iff_ne.mpr n3]⟩
  | either l r' =>
    obtain ⟨p, dx, u, w, h1, h2, _⟩ := (show qPatR K F v (.either l r') from r)
    exact ⟨p, dx, _, h1, s _ _ h2, fun m n1 n2 n3 => by simp [List.lookup, beq_eq_false_iff_ne.mpr n2, beq_eq_false_iff_ne.mpr n3]⟩
section
variable {X : Cx} {k : Nat} {m : Str} {ps : List Str} {sp : Str → Sp} {F H F0 H0 : Hp} {P' : Addr → Prop} {v : V} {a : Pat} {Q : VK} {t : (List V → Hp → Prop) → Hp → Prop} {E : XK}
theorem VM.call (V : VM X.prog X.w X.K X.mg X.base k m ps sp) (hr : Room k X.A) (S : Sx P' F0 H0 F H) (r : qPat.r X.K F v a) (kt : t (fun vs H2 => sp a.cls (v :: vs) H2 Q E) H)
    (n1 : m ≠ "pieces" := by decide) (n2 : m ≠ "left" := by decide) (n3 : m ≠ "right" := by decide) : mvK X m E t Q v H := by
  obtain ⟨p, dx, fs, rfl, h2, h3⟩ := qPat_ins r S.sub
  obtain ⟨c, me, F, b⟩ := V.go a.cls a.isC
  exact ⟨p, dx, fs, _, sp a.cls, rfl, h2, h3 m n1 n2 n3, ⟨_, k, _, ps, CX0, c, me, F, hr, b, pass0⟩, kt⟩
end
structure InsF (K : PySem.W.Frag) (C : Addr) : Prop where
  ha : PySem.W.findIn K (.ref C) "__class__" = some (some (.builtin "object.__class__"))
  hn : PySem.W.specialIn K (.builtin "object.__class__") "__get__" = some (some (.builtin "getset_descriptor.__get__"))
  htk : PySem.W.takesIn K (.builtin "object.__class__") = some true
  hm : PySem.W.mroIn K C (.type "object") = some true
def insB (K : PySem.W.Frag) (C : Addr) : Bool := He.eqO (PySem.W.findIn K (.ref C) "__class__") (some (some (.builtin "object.__class__"))) && (decide (PySem.W.specialIn K (.builtin "object.__class__") "__get__" = some (some (.builtin "getset_descriptor.__get__"))) && (decide (PySem.W.takesIn K (.builtin "object.__class__") = some true) && decide (PySem.W.mroIn K C (.type "object") = some true)))
theorem insB_ok {K : PySem.W.Frag} {C : Addr} (h : insB K C = true) : InsF K C := by
  unfold insB at h
  obtain ⟨h1, h⟩ := He.ba h
  obtain ⟨h2, h⟩ := He.ba h
  obtain ⟨h3, h4⟩ := He.ba h
  exact ⟨He.eqO_ok h1, of_decide_eq_true h2, of_decide_eq_true h3, of_decide_eq_true h4⟩
/-- what the head says of the three classes -/
structure PatF (K : PySem.W.Frag) : Prop where
  cls : ∀ x, isPatC x → Cls K (He.ga K x)
  ins : ∀ x, isPatC x → InsF K (He.ga K x)
  isa : ∀ x, isPatC x → PySem.W.kitOne K (.ref (He.ga K x)) (.ref (He.ga K "Pattern")) = some true
  and_ : ∀ x, isPatC x → OwnOp K (He.ga K x) "and" (He.fAd K ("Pattern", some "__and__"))
  or_ : ∀ x, isPatC x → OwnOp K (He.ga K x) "or" (He.fAd K ("Pattern", some "__or__"))
  ap : ∀ x y, isPatC x → isPatC y → He.ga K x = He.ga K y ∨ PySem.W.subIn K (.ref (He.ga K y)) (.ref (He.ga K x)) = some false
def patCs : List Str := ["Form", "Both", "Either"]
theorem patCs_mem {x : Str} (h : isPatC x) : x ∈ patCs := by
  rcases h with rfl | rfl | rfl <;> simp [patCs]
def patB (K : PySem.W.Frag) : Bool := patCs.all fun x => insB K (He.ga K x) && (isaB K x "Pattern" true && (ownOpB K x "and" (He.fAd K ("Pattern", some "__and__")) && (ownOpB K x "or" (He.fAd K ("Pattern", some "__or__")) && patCs.all (apartB K x))))
theorem patB_ok {K : PySem.W.Frag} (h : patB K = true) (c1 : Cls K (He.ga K "Form")) (c2 : Cls K (He.ga K "Both")) (c3 : Cls K (He.ga K "Either")) : PatF K := by
  have z := fun x (hx : isPatC x) => List.all_eq_true.mp h x (patCs_mem hx)
  refine ⟨fun x hx => ?_, fun x hx => ?_, fun x hx => ?_, fun x hx => ?_, fun x hx => ?_, fun x y hx hy => ?_⟩
  · rcases hx with rfl | rfl | rfl
    · exact c1
    · exact c2
    · exact c3
  · exact insB_ok (He.ba (z x hx)).1
  · exact isaB_ok (He.ba (He.ba (z x hx)).2).1
  · exact ownOpB_ok (He.ba (He.ba (He.ba (z x hx)).2).2).1
  · exact ownOpB_ok (He.ba (He.ba (He.ba (He.ba (z x hx)).2).2).2).1
  · exact apartB_ok (List.all_eq_true.mp (He.ba (He.ba (He.ba (He.ba (z x hx)).2).2).2).2 y (patCs_mem hy))
/-! ## x is None -/
class NN {α : Type} (A : R α) : Prop where
  n : ∀ {K : PySem.W.Frag} {F : Hp} {v : V} {a : α}, A.r K F v a → v ≠ .non
instance : NN qI := ⟨fun h => by cases (show _ = V.int _ from h); exact fun z => nomatch z⟩
instance : NN qS := ⟨fun h => by cases (show _ = V.str _ from h); exact fun z => nomatch z⟩
instance : NN qB := ⟨fun h => by cases (show _ = V.bl _ from h); exact fun z => nomatch z⟩
instance {α : Type} {A : R α} : NN (qL A) := ⟨fun ⟨p, vs, h, _⟩ => by subst h; exact fun z => nomatch z⟩
instance {α : Type} {A : R α} : NN (qT A) := ⟨fun ⟨p, vs, h, _⟩ => by subst h; exact fun z => nomatch z⟩
instance {α β : Type} {A : R α} {B : R β} : NN (q2 A B) := ⟨fun ⟨p, u, w, h, _⟩ => by subst h; exact fun z => nomatch z⟩
instance {α β γ : Type} {A : R α} {B : R β} {C : R γ} : NN (q3 A B C) := ⟨fun ⟨p, u, w, z, h, _⟩ => by subst h; exact fun z => nomatch z⟩
instance : NN qForm := ⟨fun ⟨p, dx, u, h, _⟩ => by subst h; exact fun z => nomatch z⟩
instance : NN qPat := ⟨fun h => by obtain ⟨p, _, _, rfl, _⟩ := qPat_ins h (Same.refl _); exact fun z => nomatch z⟩
def rIsN0 : R2 := fun x y H Q => y = .non ∧ Q (.bl (decide (x = .non))) H
def rNotN0 : R2 := fun x y H Q => y = .non ∧ Q (.bl (!decide (x = .non))) H
theorem op_isN' {X : Cx} : OpR X (compareOp .Is) rIsN0 := op_isN
theorem op_notN' {X : Cx} : OpR X (compareOp .IsNot) rNotN0 := op_notN
section
variable {α : Type} {A : R α} {K : PySem.W.Frag} {F H : Hp} {v : V} {Q : VK} {a : Option α} {b : α}
theorem qO_non [N : NN A] (r : (qO A).r K F v a) : decide (v = .non) = a.isNone := by
  cases a with
  | none => cases (show v = .non from r); rfl
  | some a => exact decide_eq_false (N.n r)
theorem rd_isN [NN A] (r : (qO A).r K F v a) (k : Q (.bl a.isNone) H) : rIsN0 v .non H Q := ⟨rfl, by rw [qO_non r]; exact k⟩
theorem rd_notN [NN A] (r : (qO A).r K F v a) (k : Q (.bl (!a.isNone)) H) : rNotN0 v .non H Q := ⟨rfl, by rw [qO_non r]; exact k⟩
theorem rd_isNt (k : Q (.bl true) H) : rIsN0 .non .non H Q := ⟨rfl, k⟩
/-- what is known to be there -/
theorem qO_some (r : (qO A).r K F v a) (h : a = some b) : A.r K F v b := by subst h; exact r
end
end Gl
namespace Gl
open PySem PySem.Spec PyProof.Rows L2
/-- data of one kind, which can be put in order -/
class Ord1 {α : Type} {A : R α} (D : Dat A) where
  n : Nat
  al : ∀ a b, PySem.W.alike (D.d a) (D.d b) = true
  dep : ∀ a, (D.d a).depth ≤ n
class Ordd {α : Type} {A : R α} (D : Dat A) extends Ord1 D where
  srt : ∀ bs : List α, PySem.W.Sortable (bs.map D.d)
theorem depAllQ {α : Type} {A : R α} (D : Dat A) (n : Nat) (h : ∀ a, (D.d a).depth ≤ n) : ∀ xs : List α, PyData.depthAll (xs.map D.d) ≤ n
  | [] => by simp [PyData.depthAll]
  | x :: xs => by
    rw [List.map_cons, PyData.depthAll]
    exact Nat.max_le.mpr ⟨h x, depAllQ D n h xs⟩
theorem alAll {α : Type} {A : R α} (D : Dat A) [o : Ord1 D] : ∀ xs ys : List α, PySem.W.alikeAll (xs.map D.d) (ys.map D.d) = true
  | [], _ => by simp [PySem.W.alikeAll]
  | _ :: _, [] => by simp [PySem.W.alikeAll]
  | x :: xs, y :: ys => by
    rw [List.map_cons, List.map_cons, PySem.W.alikeAll, alAll D xs ys, o.al x y]; rfl
instance oI : Ordd dI where
  n := 0
  al := fun _ _ => rfl
  dep := fun _ => Nat.zero_le _
  srt := fun bs => PySem.W.Sortable.others fun b => ⟨(fun z => nomatch z), fun _ z => nomatch z⟩
instance oS : Ordd dS where
  n := 0
  al := fun _ _ => rfl
  dep := fun _ => Nat.zero_le _
  srt := fun bs => PySem.W.Sortable.others fun b => ⟨(fun z => nomatch z), fun _ z => nomatch z⟩
instance oB : Ordd dB where
  n := 0
  al := fun _ _ => rfl
  dep := fun _ => Nat.zero_le _
  srt := fun bs => PySem.W.Sortable.others fun b => ⟨(fun z => nomatch z), fun _ z => nomatch z⟩
instance oT {α : Type} {A : R α} {D : Dat A} [o : Ord1 D] : Ord1 (dT D) where
  n := o.n + 1
  al := fun a b => by
    show PySem.W.alike (.tuple (a.map D.d)) (.tuple (b.map D.d)) = true
    rw [PySem.W.alike]; exact alAll D a b
  dep := fun a => by
    show (PyData.tuple (a.map D.d)).depth ≤ _
    rw [PyData.depth]
    have := depAllQ D o.n o.dep a
    omega
instance oL {α : Type} {A : R α} {D : Dat A} [o : Ord1 D] : Ordd (dL D) where
  n := o.n + 1
  al := fun a b => by
    show PySem.W.alike (.list (a.map D.d)) (.list (b.map D.d)) = true
    rw [PySem.W.alike]; exact alAll D a b
  dep := fun a => by
    show (PyData.list (a.map D.d)).depth ≤ _
    rw [PyData.depth]
    have := depAllQ D o.n o.dep a
    omega
  srt := fun bs => PySem.W.Sortable.others fun b => ⟨(fun z => nomatch z), fun _ z => nomatch z⟩
instance o2 {α β : Type} {A : R α} {B : R β} {D : Dat A} {E : Dat B} [o : Ord1 D] [p : Ord1 E] : Ordd (d2 D E) where
  n := max o.n p.n + 1
  al := fun a b => by
    show PySem.W.alike (.tuple [D.d a.1, E.d a.2]) (.tuple [D.d b.1, E.d b.2]) = true
    simp [PySem.W.alike, PySem.W.alikeAll, o.al, p.al]
  dep := fun a => by
    show (PyData.tuple [D.d a.1, E.d a.2]).depth ≤ _
    have h1 := o.dep a.1
    have h2 := p.dep a.2
    simp only [PyData.depth, PyData.depthAll]
    omega
  srt := fun bs => PySem.W.Sortable.tuples fun b => ⟨_, _, rfl⟩
end Gl
namespace Gl
open PySem PySem.Spec PyProof.Rows L2
end Gl
namespace Gl
open PySem PySem.Spec PyProof.Rows L2
/-! ## any, all, sum, pop, insert, index, clear -/
section
variable {K : PySem.W.Frag} {P : Addr → Prop} {F0 H0 F H F' : Hp} {v : V} {Q : VK} {α : Type} {A : R α} {p : Addr} {vs : List V}
theorem rd_clear {xs : List α} (S : Sx P F0 H0 F H) (w : Ow P H0 F H p (.lst vs)) (r : Row A K F vs xs) (k : ∀ H', Sx (fun a => a = p) F H F H' → Ow P H0 F H' p (.lst []) → Row A K F [] ([] : List α) → Q .non H') : rClear (.ref p) [] H Q :=
  ⟨p, vs, rfl, rfl, w.at_, k _ (putS S w) w.put .nil⟩
end
/-! ## rows of unlike things -/
structure RR (α : Type) where
  r : PySem.W.Frag → Hp → List V → α → Prop
  mono : ∀ {K : PySem.W.Frag} {F F' : Hp} {v : List V} {a : α}, Same F F' → r K F v a → r K F' v a
def f1 {α : Type} (A : R α) : RR α := ⟨fun K F vs a => ∃ u, vs = [u] ∧ A.r K F u a, fun e ⟨u, h1, h2⟩ => ⟨u, h1, A.mono e h2⟩⟩
def fc {α β : Type} (A : R α) (B : RR β) : RR (α × β) := ⟨fun K F vs a => ∃ u us, vs = u :: us ∧ A.r K F u a.1 ∧ B.r K F us a.2, fun e ⟨u, us, h1, h2, h3⟩ => ⟨u, us, h1, A.mono e h2, B.mono e h3⟩⟩
def qLr {α : Type} (B : RR α) : R α := ⟨fun K F v a => ∃ p vs, v = .ref p ∧ F p = some (.lst vs) ∧ B.r K F vs a, fun e ⟨p, vs, h1, h2, h3⟩ => ⟨p, vs, h1, e _ _ h2, B.mono e h3⟩⟩
def qTr {α : Type} (B : RR α) : R α := ⟨fun K F v a => ∃ p vs, v = .ref p ∧ SqT K F p vs ∧ B.r K F vs a, fun e ⟨p, vs, h1, h2, h3⟩ => ⟨p, vs, h1, same_t e h2, B.mono e h3⟩⟩
structure DatR {α : Type} (B : RR α) where
  d : α → List PyData
  dp : ∀ {K : PySem.W.Frag} {F : Hp} {v : List V} {a : α}, B.r K F v a → DpAll K F v (d a)
  eq : ∀ a b : α, PyData.eqvAll (d a) (d b) = true ↔ a = b
def e1 {α : Type} {A : R α} (D : Dat A) : DatR (f1 A) := ⟨fun a => [D.d a], fun ⟨u, h1, h2⟩ => by subst h1; exact .cons (D.dp h2) .nil, fun a b => by
  show (PyData.eqv (D.d a) (D.d b) && true) = true ↔ _
  rw [Bool.and_true, D.eq]⟩
def ec {α β : Type} {A : R α} {B : RR β} (D : Dat A) (E : DatR B) : DatR (fc A B) := ⟨fun a => D.d a.1 :: E.d a.2, fun ⟨u, us, h1, h2, h3⟩ => by subst h1; exact .cons (D.dp h2) (E.dp h3), fun a b => by
  show (PyData.eqv (D.d a.1) (D.d b.1) && PyData.eqvAll (E.d a.2) (E.d b.2)) = true ↔ _
  rw [Bool.and_eq_true, D.eq, E.eq]
  obtain ⟨a1, a2⟩ := a
  obtain ⟨b1, b2⟩ := b
  simp⟩
def dLr {α : Type} {B : RR α} (E : DatR B) : Dat (qLr B) := ⟨fun a => .list (E.d a), fun ⟨p, vs, h1, h2, h3⟩ => by subst h1; exact .lst (SqL.of h2) (E.dp h3), fun a b => E.eq a b⟩
def dTr {α : Type} {B : RR α} (E : DatR B) : Dat (qTr B) := ⟨fun a => .tuple (E.d a), fun ⟨p, vs, h1, h2, h3⟩ => by subst h1; exact .tup h2 (E.dp h3), fun a b => E.eq a b⟩
instance {α : Type} {B : RR α} : NN (qLr B) := ⟨fun ⟨p, vs, h, _⟩ => by subst h; exact fun z => nomatch z⟩
instance {α : Type} {B : RR α} : NN (qTr B) := ⟨fun ⟨p, vs, h, _⟩ => by subst h; exact fun z => nomatch z⟩
instance {α : Type} {B : RR α} {E : DatR B} : NotNone (dLr E) := ⟨fun _ => rfl, fun _ => rfl⟩
instance {α : Type} {B : RR α} {E : DatR B} : NotNone (dTr E) := ⟨fun _ => rfl, fun _ => rfl⟩
end Gl
namespace Gl
open PySem PySem.Spec PyProof.Rows L2
section
variable {K : PySem.W.Frag} {P : Addr → Prop} {F0 H0 F H : Hp} {v : V} {Q : VK} {w : World}
/-! ## [x] * n -/
def repLOk {α : Type} (xs : List α) (k : Int) : Bool := decide (k < 2 ^ 63 ∧ -(2 ^ 63) ≤ k ∧ xs.length * k.toNat ≤ sizeLine)
def repL {α : Type} (xs : List α) (k : Int) : List α := (List.replicate k.toNat xs).flatten
theorem row_rep {α : Type} {A : R α} {vs : List V} {xs : List α} (r : Row A K F vs xs) : ∀ n : Nat, Row A K F (List.replicate n vs).flatten (List.replicate n xs).flatten
  | 0 => .nil
  | n + 1 => by
    rw [List.replicate_succ, List.replicate_succ, List.flatten_cons, List.flatten_cons]
    exact pApp r (row_rep r n)
theorem rd_repL {α : Type} {A : R α} {xs : List α} {k : Int} (s : SeenL A K F H v xs) (h : repLOk xs k = true) (q : nL A K F Q H (repL xs k)) : rRep v (.int k) H Q := by
  obtain ⟨p, vs, rfl, h1, r⟩ := s
  obtain ⟨h2, h3, h4⟩ := of_decide_eq_true h
  have e : vs.length = xs.length := pLen r
  exact ⟨p, k, vs, rfl, rfl, h1, h3, h2, by rw [e]; exact h4, fun l hl => q l _ hl (row_rep r _)⟩
end
/-! ## a chain of ints -/
def chK (r' : R2) (tc : TE) (y : V) (σ : L2.St) (Q : VK) : VK := fun z H3 => ∃ k, z = .bl k ∧ (if k = true then tc σ H3 fun w' H4 => r' y w' H4 Q else Q (.bl false) H3)
theorem rd_chain {r r' : R2} {ta tb tc : TE} {σ : L2.St} {H : Hp} {Q : VK} (k : ta σ H fun x H1 => tb σ H1 fun y H2 => r x y H2 (chK r' tc y σ Q)) : tChain r r' ta tb tc σ H Q := k
theorem ch_at {r' : R2} {tc : TE} {y z : V} {σ : L2.St} {H : Hp} {Q : VK} {b c : Bool} (hc : ∀ Q' : VK, Q' z H → tc σ H Q') (hr : ∀ Q' : VK, Q' (.bl c) H → r' y z H Q') (k : Q (.bl (b && c)) H) : chK r' tc y σ Q (.bl b) H :=
  ⟨b, rfl, by
    cases b
    · exact k
    · exact hc _ (hr _ k)⟩
/-! ## built-in methods, the reading by K itself -/
section
variable {X : Cx} {K : PySem.W.Frag} {T id : String} {name : Str} {o e : Expr} {es : List Expr} {to : TE} {t : TA} {r : V → List V → Hp → VK → Prop} {apos cpos : Pos}
theorem pe_bm0K (pa : PlainAttrs T) (slot : Slot T name id) (hty : typeOf (.builtin id) = pure (.type "method_descriptor")) (hm : MtR X id r) (ho : PE X o to) (hK : X.K = K := by rfl)
    (hbase : attributeBase o name X.env (eval o X.env) = eval o X.env := by rfl) (hline : (apos.endLine == cpos.line) = true := by rfl) : PE X (.Call (.Attribute o name apos) [] [] cpos) (tBM0 K T r to) := by
  subst hK; exact pe_bm0 pa slot hty hm ho hbase hline
theorem pe_bmK (pa : PlainAttrs T) (slot : Slot T name id) (hty : typeOf (.builtin id) = pure (.type "method_descriptor")) (hm : MtR X id r) (ho : PE X o to) (ha : PA X (e :: es) t) (hK : X.K = K := by rfl)
    (hbase : attributeBase o name X.env (eval o X.env) = eval o X.env := by rfl)
    (hfew : ((backTo cpos (starEach (e :: es) X.env)).all (fun x => !x.1) && (backToKw cpos (keywordEach [] X.env)).all (fun x => x.1.isSome)
      && decide ((e :: es).length + ([] : List Keyword).length + (if ([] : List Keyword).isEmpty then 0 else 1) < 30)) = true := by rfl)
    (hline : (apos.endLine == cpos.line) = true := by rfl) (hs : starEach (e :: es) X.env = (false, eval e X.env) :: starEach es X.env := by rfl) (hplain : (backTo cpos (starEach es X.env)).any (·.1) = false := by rfl) :
    PE X (.Call (.Attribute o name apos) (e :: es) [] cpos) (tBM K T r to t) := by
  subst hK; exact pe_bm pa slot hty hm ho ha hbase hfew hline hs hplain
end
end Gl
namespace Gl
open PySem PySem.Spec PyProof.Rows L2
end Gl
namespace Gl
open PySem PySem.Spec PyProof.Rows L2
end Gl
namespace L2
open PySem PySem.Spec PyProof.Rows
end L2
namespace Gl
open PySem PySem.Spec PyProof.Rows L2
end Gl
namespace Gl
open PySem PySem.Spec PyProof.Rows L2
/-! ## str(o), len(o), o of a class of the program's own -/
section
variable {X : Cx} {CX : CXT} {k : Nat} {C f : Addr} {fd : FuncData} {ps : List Str} {sp : Sp} {E : XK}
/-- run_fn two places deeper -/
theorem run_fn2 {pins : List (Addr × Obj)} {σ : L2.St} {H : Hp} {s : Shared} {Q : VK} {us : List Value} {vs : List V} (F : FnOk X.prog X.w X.K X.mg X.base CX k f fd ps sp) (hr : Room (k + 2) X.A) (hb : Binds X.K fd ps []) (hx : Passes CX X E)
    (I : Inv X pins σ H s) (r : Vals vs us) (h : sp vs H Q E) : wpAny (model X.prog X.w) X.A.in1.in1 (call (.ref f) us) (EP X pins σ Q) X.xe s := by
  have hl : (us ++ []).length = ps.length := by rw [List.append_nil, ← r.length]; exact F.len _ _ _ _ h
  have hb' := hb s us I.kIn hl
  rw [List.append_nil] at hb'
  refine wpAny_call (codeAny_mono (F.run X.A.in1.in1 X.stack s H ⟨us, []⟩ us vs Q E hr.in1.in1 I.env0.in1.in1 hb' r h) fun r s' hq => ?_)
  cases r with
  | error e => exact hx pins σ H s e s' I hq
  | ok fl =>
    cases fl with
    | ret u => exact I.after hq
    | next => exact False.elim hq
    | brk => exact False.elim hq
    | cont => exact False.elim hq
end
def stK (Q : VK) : VK := fun v H2 => ∃ t, v = .str t ∧ Q (.str t) H2
def rStrW (P : Program) (w : World) (K : PySem.W.Frag) (mg : Str → Option Value) (base : Heap) (k : Nat) : List V → Hp → VK → Prop := fun xs H Q => ∃ (a dx : Addr) (fs : List (Str × V)) (C f : Addr) (sp : Sp) (j : Nat) (fd : FuncData) (ps : List Str), xs = [.ref a] ∧ H a = some (.ins C dx fs) ∧
  Meth K C "__str__" f ∧ FnOk P w K mg base CX0 j f fd ps sp ∧ j ≤ k ∧ Binds K fd ps [] ∧ sp [.ref a] H (stK Q) E0
theorem cr_strW {X : Cx} {k : Nat} (hr : Room (k + 2) X.A) : CallR X (.type "str") (rStrW X.prog X.w X.K X.mg X.base k) := by
  intro pins s σ H xs us Q I r h
  obtain ⟨a, dx, fs, C, f, sp, j, fd, ps, rfl, e, hm, F, hj, hb, h⟩ := h
  obtain rfl := Vals.ref1 r
  obtain ⟨ox, od, J, _⟩ := StX.insC_at I (.inr ⟨dx, fs, e⟩)
  refine PySem.W.kso_call (by have := hr.un; show X.A.units + 1 + 1 < cLine; omega) I.kIn J hm.at_ hm.fn ?_
  have z := run_fn2 (X := X) (us := [.ref a]) (vs := [.ref a]) F (hr.mono (by omega)) hb pass0 I (.cons rfl .nil) (Q := stK Q) h
  refine wpAny_mono z (fun v s' hv => ?_) fun _ _ z => z
  obtain ⟨x, H', I', rx, t, ex, q⟩ := hv
  subst ex
  obtain ⟨tk, rfl⟩ := rx
  exact ⟨.str t, H', I', ⟨tk, rfl⟩, q⟩
theorem rd_stK {Q : VK} {t : Str} {H : Hp} (k : Q (.str t) H) : stK Q (.str t) H := ⟨t, rfl, k⟩
theorem VM.strW {P : Program} {w : World} {K : PySem.W.Frag} {mg : Str → Option Value} {base : Heap} {k : Nat} {ps : List Str} {sp : Str → Sp} {F H F0 H0 : Hp} {P' : Addr → Prop} {v : V} {a : Pat} {Q : VK} (V : VM P w K mg base k "__str__" ps sp) (S : Sx P' F0 H0 F H) (r : qPat.r K F v a)
    (kt : sp a.cls [v] H (stK Q) E0) : rStrW P w K mg base k [v] H Q := by
  obtain ⟨p, dx, fs, rfl, h2, h3⟩ := qPat_ins r S.sub
  obtain ⟨c, me, F, b⟩ := V.go a.cls a.isC
  exact ⟨p, dx, fs, _, _, sp a.cls, k, _, ps, rfl, h2, me, F, Nat.le_refl _, b, kt⟩
/-! ## f-strings of texts -/
section
variable {t te : TE} {ts : List TE} {acc y : Str} {σ : L2.St} {H : Hp} {R : Str → Hp → Prop} {Q : VK}
def jsK (ts : List TE) (acc : Str) (σ : L2.St) (R : Str → Hp → Prop) : VK := fun x H1 => ∃ y : Str, x = .str y ∧ (acc ++ y).length ≤ sizeLine ∧ tJs ts (acc ++ y) σ H1 R
theorem rd_js (k : t σ H (jsK ts acc σ R)) : tJs (t :: ts) acc σ H R := k
theorem js_at (h : (acc ++ y).length ≤ sizeLine) (k : tJs ts (acc ++ y) σ H R) : jsK ts acc σ R (.str y) H := ⟨y, rfl, h, k⟩
theorem rd_js0 (k : R acc H) : tJs [] acc σ H R := k
def fmK (Q : VK) : VK := fun x H1 => (∃ y : Str, x = .str y ∧ y.length ≤ sizeLine ∧ Q (.str y) H1) ∨ ∃ i : Int, x = .int i ∧ i.natAbs.log2 < 1920 ∧ Q (.str (toString i)) H1
theorem rd_fm (k : te σ H (fmK Q)) : tFmt te σ H Q := k
theorem fm_at (h : y.length ≤ sizeLine) (k : Q (.str y) H) : fmK Q (.str y) H := .inl ⟨y, rfl, h, k⟩
end
/-! ## the text of a pattern -/
def joinP (m x y : Str) : Str := Str.empty ++ ("(" : Str) ++ x ++ m ++ y ++ (")" : Str)
def joinPok (m x y : Str) : Bool := decide (x.length ≤ sizeLine) && decide (y.length ≤ sizeLine) && decide ((joinP m x y).length ≤ sizeLine)
theorem joinPok_len {m x y : Str} (h : joinPok m x y = true) : x.length ≤ sizeLine ∧ y.length ≤ sizeLine ∧ (Str.empty ++ ("(" : Str)).length ≤ sizeLine ∧ (Str.empty ++ ("(" : Str) ++ x).length ≤ sizeLine ∧ (Str.empty ++ ("(" : Str) ++ x ++ m).length ≤ sizeLine ∧ (Str.empty ++ ("(" : Str) ++ x ++ m ++ y).length ≤ sizeLine ∧ (Str.empty ++ ("(" : Str) ++ x ++ m ++ y ++ (")" : Str)).length ≤ sizeLine := by
  unfold joinPok joinP at h
  simp only [Bool.and_eq_true, decide_eq_true_eq] at h
  obtain ⟨⟨h1, h2⟩, h3⟩ := h
  simp only [Str.length_append] at h3 ⊢
  omega
def Pat.str : Pat → Option Str
  | .form a => gd (joinOk ("" : Str) a) (some (Txt.join ("" : Str) a))
  | .both l r => l.str.bind fun x => r.str.bind fun y => gd (joinPok (" & " : Str) x y) (some (joinP (" & " : Str) x y))
  | .either l r => l.str.bind fun x => r.str.bind fun y => gd (joinPok (" | " : Str) x y) (some (joinP (" | " : Str) x y))
def m_pat___str__ (a : Pat) : Option Str := patN 3 a a.str
def sp_pat_str (n : Nat) (x : Str) (K : PySem.W.Frag) : Sp := fun vs H Q _ => ∃ (F : Hp) (v_self : V) (a_self : Pat) (r : Str), vs = [v_self] ∧ Same F H ∧ qPat.r K F v_self a_self ∧ a_self.cls = x ∧ patN n a_self a_self.str = some r ∧ ∀ v F' H', Sx P0 F H F' H' → qS.r K F' v r → Q v H'
end Gl
namespace Gl
open PySem PySem.Spec PyProof.Rows L2
section
variable {K : PySem.W.Frag} {P : Addr → Prop} {F0 H0 F H : Hp} {v u : V} {Q : VK}
/-! ## sorted(xs), tuples of which some may be empty -/
end
section
variable {K : PySem.W.Frag} {P : Addr → Prop} {F0 H0 F H : Hp} {v u : V} {Q : VK}
theorem u65 {k : Nat} {A : Around} (r : Room k A) : A.units + 65 < cLine := by have := r.un; omega
end
end Gl
namespace Gl
open PySem PySem.Spec PyProof.Rows L2 C8
open PySem.OwnE (ErC IS putM)
/-! ## own errors that are let out of defs and caught -/
/-- go on, or hand the error on -/
def exB {ε α β : Type} : Except ε α → (α → Option (Except ε β)) → Option (Except ε β)
  | .ok a, k => k a
  | .error e, _ => some (.error e)
theorem exB_ok {ε α β : Type} {a : α} {k : α → Option (Except ε β)} {r : Except ε β} (h : exB (.ok a) k = some r) : k a = some r := h
theorem exB_err {ε α β : Type} {t : Except ε α} {e : ε} {k : α → Option (Except ε β)} {r : Except ε β} (ee : t = .error e) (h : exB t k = some r) : r = .error e := by
  subst ee
  exact (Option.some.inj h).symm
/-- try: the clause's suite, or what follows -/
def exT {ε α β : Type} : Except ε α → (ε → Option β) → (α → Option β) → Option β
  | .ok a, _, k => k a
  | .error e, h, _ => h e
theorem exT_ok {ε α β : Type} {a : α} {k : α → Option β} {h : ε → Option β} {r : β} (hm : exT (.ok a) h k = some r) : k a = some r := hm
theorem exT_err {ε α β : Type} {e : ε} {k : α → Option β} {h : ε → Option β} {r : β} (hm : exT (.error e : Except ε α) h k = some r) : h e = some r := hm
/-- an error of the class c with these fields, in the heap -/
def ErrAt (K : PySem.W.Frag) (H : Hp) (c : Str) (fs : List Str) (xs : List V) (cls : Value) (d : Option Addr) : Prop := ∃ dd, cls = .ref (He.ga K c) ∧ d = some dd ∧ H dd = some (.xd (putL fs xs []))
/-! ### raise -/
def tRz (t : L2.St → Hp → XK → Prop) (E : XK) : TS := fun _ σ H => t σ H E
section
variable {P : Program} {w : World} {K : PySem.W.Frag} {mg : Str → Option Value} {base : Heap} {N : List Str} {qual : Str} {scope : Scope} {f : Addr} {cd : Value} {A : Around} {outer : List Env} {s : Shared} {H0 : Hp} {E : XK}
theorem takes_cx : Takes (cxOf (L2.CX P w) P w K mg base N qual scope f cd A outer s H0 E) (fun cls d _ H' => E cls d H') := takes_of rfl rfl rfl rfl
theorem owns_cx : PassesOwn (model P w) (cxOf (L2.CX P w) P w K mg base N qual scope f cd A outer s H0 E).A (cxOf (L2.CX P w) P w K mg base N qual scope f cd A outer s H0 E).env (cxOf (L2.CX P w) P w K mg base N qual scope f cd A outer s H0 E).xe := passes_of rfl
theorem passes_cx : Passes (L2.CX P w) (cxOf (L2.CX P w) P w K mg base N qual scope f cd A outer s H0 E) E := passes_call takes_cx (fun _ _ _ _ h => h)
theorem ps_rz {e : Expr} {t : L2.St → Hp → XK → Prop} {pos : Pos} (he : PMk (cxOf (L2.CX P w) P w K mg base N qual scope f cd A outer s H0 E) e t) : PS (cxOf (L2.CX P w) P w K mg base N qual scope f cd A outer s H0 E) (.Raise (some e) none pos) (tRz t E) := ps_raise rfl takes_cx he
end
section
variable {K : PySem.W.Frag} {P : Addr → Prop} {F0 H0 F H : Hp} {σ : L2.St} {c : Str} {fs : List Str} {xs : List V} {E : XK} {ta : TA} {N B C : L2.St → Hp → Prop} {R : VK}
def eK (K : PySem.W.Frag) (c : Str) (fs : List Str) (E : XK) : List V → Hp → Prop := fun vs H1 => vs.length = fs.length ∧ ∀ d, H1 d = none → E (.ref (He.ga K c)) (some d) (upd H1 d (.xd (putL fs vs [])))
theorem rd_rz (k : ta σ H (eK K c fs E)) : tRz (tErr (He.ga K c) fs ta) E ⟨N, R, B, C⟩ σ H := k
theorem rd_eK {vs : List V} (S : Sx P F0 H0 F H) (e : vs = xs) (hl : xs.length = fs.length) (k : ∀ cls d H', Sx P F0 H0 F H' → ErrAt K H' c fs xs cls d → E cls d H') : eK K c fs E vs H := by
  subst e
  exact ⟨hl, fun d hd => k _ _ _ (S.temp hd) ⟨d, rfl, rfl, upd_same⟩⟩
end
section
variable {K : PySem.W.Frag} {P : Addr → Prop} {F0 H0 F H : Hp} {σ : L2.St} {C : Addr} {sp : Sp} {E : L2.St → XK} {Q : VK} {t : TA}
theorem rd_callS (k : t σ H fun vs H1 => sp vs H1 Q (E σ)) : tCallS sp E t σ H Q := k
end
/-! ### try: body, except C as e: suite -/
def tTry (tb : WX → TS) (K : PySem.W.Frag) (c : Value) (i : Nat) (ts : Addr → Value → Option Addr → TS) (Wout : WX) : TS := fun D σ H => tb (wAs K c i ts Wout D) D σ H
section
variable {X : Cx} {x n : Str} {c : Value} {i : Nat} {body suite : List Stmt} {b₀ : Stmt} {np pos pos' : Pos} {tb : WX → TS} {ts : Addr → Value → Option Addr → TS} {Wout : WX}
theorem ps_tryK (hs : X.stack = X.env :: X.outer) (hf : X.env.frame = some X.env.locals) (hN : X.N.Nodup) (hi : X.N[i]? = some n) (hln : X.env.kindOf n = some .local) (hc : Names X x c) (tk : Takes X Wout)
    (hb : ∀ (W : WX) (pn : List (Addr × Obj)) (xe : Value → Shared → Prop), Takes (X.tr pn xe) W → PassesOwn (model X.prog X.w) X.A X.env xe → PSs (X.tr pn xe) body (tb W))
    (hsu : ∀ (a : Addr) (oe : Obj) (cls : Value) (d : Option Addr) (pn : List (Addr × Obj)), Zc cls d oe → (∃ vs, oe.data = .fields vs) → PSs (X.suite a ((a, oe) :: pn)) (b₀ :: suite) (ts a cls d)) :
    PS X (.Try body [.ExceptHandler (some (.Name x np)) (some n) (b₀ :: suite) pos'] [] [] pos) (tTry tb X.K c i ts Wout) := ps_try_as hs hf hN hi hln hc tk hb hsu
theorem takesF : Takes X (fun _ _ _ _ => False) := L2.takes0
end
section
variable {K : PySem.W.Frag} {P : Addr → Prop} {F0 H0 F H : Hp} {σ : L2.St} {c : Value} {i : Nat} {tb : WX → TS} {ts : Addr → Value → Option Addr → TS} {Wout : WX} {D : Ends} {N B C : L2.St → Hp → Prop} {R : VK} {cls : Value} {d : Option Addr}
theorem rd_try (k : tb (wAs K c i ts Wout ⟨N, R, B, C⟩) ⟨N, R, B, C⟩ σ H) : tTry tb K c i ts Wout ⟨N, R, B, C⟩ σ H := k
theorem rd_was (hb : PySem.W.exmOne K cls c = some true) (k : ∀ a, H a = none → ts a cls d ⟨fun σ' H' => D.nx (σ'.set i none) H', D.rt, fun σ' H' => D.bk (σ'.set i none) H', fun σ' H' => D.ct (σ'.set i none) H'⟩ (σ.set i (some (.ref a))) H) : WE (wAs K c i ts Wout D) σ cls d H := ⟨true, hb, fun _ => k, fun z => by cases z⟩
end
/-! ### fields of the caught error, isinstance of it -/
section
variable {K : PySem.W.Frag} {H : Hp} {σ : L2.St} {a C dd : Addr} {cls : Value} {d : Option Addr} {f : Str} {Q : VK} {te : TE} {l : List (Str × V)} {v : V}
def xfK (a : Addr) (cls : Value) (d : Option Addr) (C : Addr) (f : Str) (Q : VK) : VK := fun x H1 => x = .ref a ∧ cls = .ref C ∧ ∃ (dd : Addr) (fs : List (Str × V)) (v : V), d = some dd ∧ H1 dd = some (.xd fs) ∧ fs.lookup f = some v ∧ Q v H1
theorem rd_xf (k : te σ H (xfK a cls d C f Q)) : tXf a cls d C f te σ H Q := k
theorem xf_at (h : H dd = some (.xd l)) (e : l.lookup f = some v) (k : Q v H) : xfK a (.ref C) (some dd) C f Q (.ref a) H := ⟨rfl, rfl, dd, l, v, rfl, h, e, k⟩
/-- what is asked of a class, so that isinstance of its errors is known -/
def isEB (K : PySem.W.Frag) (D : Addr) : Bool := (PySem.W.clsIn K D).isSome && (decide (PySem.W.findIn K (.ref D) "__getattribute__" = some (some (.builtin "BaseException.__getattribute__"))) && (decide (PySem.W.findIn K (.ref D) "__getattr__" = some none) && (decide (PySem.W.subIn K (.ref D) (.type "BaseException") = some true) &&
  (decide (PySem.W.findIn K (.ref D) "__class__" = some (some (.builtin "object.__class__"))) && (decide (PySem.W.specialIn K (.builtin "object.__class__") "__get__" = some (some (.builtin "getset_descriptor.__get__"))) && (decide (PySem.W.takesIn K (.builtin "object.__class__") = some true) && decide (PySem.W.mroIn K D (.type "object") = some true)))))))
def rIsX (K : PySem.W.Frag) (D a : Addr) (cls : Value) (d : Option Addr) : List V → Hp → VK → Prop := fun xs H Q => ∃ (c : V) (cv : Value) (b : Bool) (dd : Addr) (l : List (Str × V)), xs = [.ref a, c] ∧ cls = .ref D ∧ d = some dd ∧ H dd = some (.xd l) ∧ (∀ u, RelV c u → u = cv) ∧ PySem.W.kitOne K (.ref D) cv = some b ∧ Q (.bl b) H
theorem cr_isX {X : Cx} {D : Addr} {oe : Obj} {pn : List (Addr × Obj)} (c : isEB X.K D = true) (hz : Zc cls d oe) (hf : ∃ vs, oe.data = .fields vs) : CallR (X.suite a ((a, oe) :: pn)) (.builtin "isinstance") (rIsX X.K D a cls d) := by
  intro pins s σ H xs us Q I r h
  obtain ⟨cv', cv, b, dd, l, rfl, rfl, rfl, hdd, hcv, e, q⟩ := h
  unfold isEB at c
  obtain ⟨c1, c⟩ := He.ba c
  obtain ⟨c2, c⟩ := He.ba c
  obtain ⟨c3, c⟩ := He.ba c
  obtain ⟨c4, c⟩ := He.ba c
  obtain ⟨c5, c⟩ := He.ba c
  obtain ⟨c6, c⟩ := He.ba c
  obtain ⟨c7, c8⟩ := He.ba c
  cases r with
  | cons rx rr =>
    cases rr with
    | cons rt rr =>
      cases rr
      cases rx
      have ec := hcv _ rt
      subst ec
      have hget := (I.pin (a, oe) (List.mem_append.mpr (.inl List.mem_cons_self))).1
      obtain ⟨vs, hv⟩ := hf
      obtain ⟨mA, hns, _⟩ := (I.hok dd _ hdd : ObjOk X.prog X.w H s.heap dd (.xd l))
      obtain ⟨od, ho, _⟩ := lookIn_ns hns
      have J : PySem.W.InstAt s.heap a oe D (some od) := ⟨hget, hz.1, by unfold PySem.W.notCls; rw [hv] <;> rfl, by rw [hz.2]; exact ho⟩
      exact PySem.W.kia_one (PySem.W.kitx_exc c1 (of_decide_eq_true c2) (of_decide_eq_true c3) (of_decide_eq_true c4) (of_decide_eq_true c5) (of_decide_eq_true c6) (of_decide_eq_true c7) (of_decide_eq_true c8)) I.kIn J e (fun z => nomatch z) fun tk => ⟨.bl b, H, I.kept (t' := tk) fun _ _ z => z, rfl, q⟩
def kitB (K : PySem.W.Frag) (D : Addr) (cv : Value) (b : Bool) : Bool := decide (PySem.W.kitOne K (.ref D) cv = some b)
theorem rd_isX {D : Addr} {cx : V} {cv : Value} {b : Bool} (h : H dd = some (.xd l)) (hc : ∀ u, RelV cx u → u = cv) (k : kitB K D cv b = true) (q : Q (.bl b) H) : rIsX K D a (.ref D) (some dd) [.ref a, cx] H Q := ⟨cx, cv, b, dd, l, rfl, rfl, rfl, h, hc, of_decide_eq_true k, q⟩
def exmB (K : PySem.W.Frag) (x y : Str) : Bool := decide (PySem.W.exmOne K (.ref (He.ga K x)) (.ref (He.ga K y)) = some true)
theorem exmB_ok {x y : Str} (h : exmB K x y = true) : PySem.W.exmOne K (.ref (He.ga K x)) (.ref (He.ga K y)) = some true := of_decide_eq_true h
end
theorem mt_joinKK {X : Cx} {K : PySem.W.Frag} (hK : X.K = K := by rfl) : MtR X "str.join" (rJoin K) := by subst hK; exact mt_joinK
end Gl
namespace Gl
open PySem PySem.Spec PyProof.Rows L2 C8
/-! ## dicts from texts to things, that stand for good -/
def SdRow (K : PySem.W.Frag) (F : Hp) (kvs : List (Key × V)) (xs : List (Str × Th)) : Prop := Paired (fun (kv : Key × V) (x : Str × Th) => kv.1 = .inr x.1 ∧ qTh.r K F kv.2 x.2) kvs xs
theorem SdRow.mono {K : PySem.W.Frag} {F F' : Hp} {kvs : List (Key × V)} {xs : List (Str × Th)} (e : Same F F') (h : SdRow K F kvs xs) : SdRow K F' kvs xs := Paired.mapP h fun _ _ r => ⟨r.1, qTh.mono e r.2⟩
def qSd : R (List (Str × Th)) := ⟨fun K F v xs => ∃ p kvs, v = .ref p ∧ F p = some (.dK kvs) ∧ SdRow K F kvs xs, fun e ⟨p, kvs, h1, h2, h3⟩ => ⟨p, kvs, h1, e _ _ h2, SdRow.mono e h3⟩⟩
def getSd (k : Str) : List (Str × Th) → Option Th
  | [] => none
  | x :: xs => if x.1 = k then some x.2 else getSd k xs
theorem SdRow.get {K : PySem.W.Frag} {F : Hp} {k : Str} : ∀ {kvs : List (Key × V)} {xs : List (Str × Th)}, SdRow K F kvs xs → (valV kvs (.inr k) = none ∧ getSd k xs = none) ∨ ∃ u t, valV kvs (.inr k) = some u ∧ getSd k xs = some t ∧ qTh.r K F u t
  | _, _, .nil => .inl ⟨rfl, rfl⟩
  | kv :: kvs, x :: xs, .cons r t => by
    by_cases e : x.1 = k
    · refine .inr ⟨kv.2, x.2, valV_pos (by rw [r.1, e]), ?_, r.2⟩
      show (if x.1 = k then _ else _) = _
      rw [if_pos e]
    · have n : ¬ kv.1 = (.inr k : Key) := fun z => by rw [r.1] at z; exact e (Sum.inr.inj z)
      rw [valV_neg n]
      show _ ∨ ∃ u t, _ ∧ (if x.1 = k then some x.2 else getSd k xs) = some t ∧ _
      rw [show getSd k (x :: xs) = getSd k xs from if_neg e, if_neg e]
      exact SdRow.get t
section
variable {K : PySem.W.Frag} {P : Addr → Prop} {F0 H0 F H : Hp} {v : V} {xs : List (Str × Th)} {Q : VK} {σ : L2.St} {td ty : TE} {k : Str} {t : Th}
def rDg : R2 := fun x y H Q => ∃ a u, x = .ref a ∧ DGet H a y (some u) ∧ Q u H
theorem pe_dgetO {X : Cx} {o i : Expr} {pos : Pos} (hu : X.A.units + 64 < cLine) (ho : PE X o td) (hi : PE X i ty) (hs : NoSl i) : PE X (.Subscript o i pos) (tOp rDg td ty) := pe_dget (by omega) ho hi hs
theorem rd_dgSd (S : Sx P F0 H0 F H) (r : qSd.r K F v xs) (h : getSd k xs = some t) (q : ∀ u, qTh.r K F u t → Q u H) : rDg v (.str k) H Q := by
  obtain ⟨p, kvs, rfl, h1, h2⟩ := r
  rcases h2.get (k := k) with ⟨e1, e2⟩ | ⟨u, t', e1, e2, e3⟩
  · rw [h] at e2; cases e2
  · rw [h] at e2
    cases e2
    exact ⟨p, u, rfl, by have := DGet.k (k := .inr k) (S.sub _ _ h1); rw [e1] at this; exact this, q u e3⟩
def rDi (neg : Bool) : R2 := fun x y H Q => ∃ a o, y = .ref a ∧ DGet H a x o ∧ Q (.bl (if neg = true then !o.isSome else o.isSome)) H
theorem op_dIn {X : Cx} (hu : X.A.units + 64 < cLine) : OpR X (compareOp .In) (rDi false) := by
  intro pins s σ H x y v u Q I rx ry h
  obtain ⟨a, o, rfl, g, q⟩ := h
  cases ry
  rw [if_neg (by decide)] at q
  exact d_in (by omega) I g rx fun s' I' => ⟨.bl _, H, I', rfl, q⟩
theorem SdRow.some_eq {kvs : List (Key × V)} (h : SdRow K F kvs xs) : (valV kvs (.inr k)).isSome = (getSd k xs).isSome := by
  rcases h.get (k := k) with ⟨e1, e2⟩ | ⟨u, t', e1, e2, e3⟩
  · rw [e1, e2]; rfl
  · rw [e1, e2]; rfl
theorem rd_dInSd (S : Sx P F0 H0 F H) (r : qSd.r K F v xs) (q : Q (.bl (getSd k xs).isSome) H) : rDi false (.str k) v H Q := by
  obtain ⟨p, kvs, rfl, h1, h2⟩ := r
  exact ⟨p, _, rfl, DGet.k (k := .inr k) (S.sub _ _ h1), by rw [if_neg (by decide), h2.some_eq]; exact q⟩
end
/-! ### displays {'a': x, ..}: the keys written, the values at hand -/
theorem mergeK_snoc : ∀ (more acc : List (Key × V)), ((acc ++ more).map (·.1)).Nodup → mergeK acc more = acc ++ more
  | [], acc, _ => by rw [List.append_nil]; rfl
  | kv :: more, acc, h => by
    have hn : valV acc kv.1 = none := by
      cases e : valV acc kv.1 with
      | none => rfl
      | some u =>
        have h2 := valV_any kv.1 acc
        rw [e] at h2
        obtain ⟨z, hz, hz2⟩ := List.any_eq_true.mp h2
        rw [List.map_append, List.map_cons, List.nodup_append] at h
        exact absurd (of_decide_eq_true hz2) (h.2.2 _ (List.mem_map_of_mem hz) _ List.mem_cons_self)
    show mergeK (putK acc kv.1 kv.2) more = _
    rw [putK_new _ hn, mergeK_snoc more (acc ++ [(kv.1, kv.2)]) (by rw [List.append_assoc]; exact h), List.append_assoc]
    rfl
theorem mergeK_self {kvs : List (Key × V)} {ks : List Key} (e : kvs.map (·.1) = ks) (h : ks.Nodup) : mergeK [] kvs = kvs := mergeK_snoc kvs [] (by rw [List.nil_append, e]; exact h)
section
variable {K : PySem.W.Frag} {P : Addr → Prop} {F0 H0 F H : Hp} {Q : VK} {σ : L2.St} {trs : List (TE × TE)} {tk tv : TE} {p : Addr} {xs : List (Str × Th)} {kvs : List (Key × V)} {R : List (V × V) → Hp → Prop}
def spK (p : Addr) (Q : VK) : List (V × V) → Hp → Prop := fun ps H2 => H2 p = some (.dK []) ∧ ∃ kvs : List (Key × V), ps = kvs.map (fun kv => (kV kv.1, kv.2)) ∧ kvs.length ≤ 15 ∧ Q (.ref p) (upd H2 p (.dK (mergeK [] kvs)))
theorem rd_disp (S : Sx P F0 H0 F H) (k : ∀ p H', H p = none → Sx P0 F H F H' → Ow P H0 F H' p (.dK []) → tPairs trs σ H' (spK p Q)) : tDisp trs σ H Q :=
  fun p hp => k p _ hp ((Sx.refl0 S.sub).temp hp) (S.own hp)
theorem rd_pp (k : tk σ H fun x H1 => tv σ H1 fun y H2 => tPairs trs σ H2 fun ps H3 => R ((x, y) :: ps) H3) : tPairs ((tk, tv) :: trs) σ H R := k
theorem rd_p0 (k : R [] H) : tPairs [] σ H R := k
theorem rd_dispE {ps : List (V × V)} {ks : List Key} (S : Sx P F0 H0 F H) (w : Ow P H0 F H p (.dK [])) (row : SdRow K F kvs xs) (e : ps = kvs.map (fun kv => (kV kv.1, kv.2))) (h15 : Nat.ble kvs.length 15 = true) (ek : kvs.map (·.1) = ks) (nd : ks.Nodup)
    (k : ∀ H', Sx (fun a => a = p) F H F H' → Ow P H0 F H' p (.dK kvs) → Q (.ref p) H') : spK p Q ps H :=
  ⟨w.at_, kvs, e, Nat.le_of_ble_eq_true h15, by rw [mergeK_self ek nd]; exact k _ (putS S w) w.put⟩
theorem fzSd (S : Sx P F0 H0 F H) (w : Ow P H0 F H p (.dK kvs)) (h0 : H0 p = none) (row : SdRow K F kvs xs) : ∃ F', Sx P F0 H0 F' H ∧ Same F F' ∧ qSd.r K F' (.ref p) xs ∧ ∀ q, q ≠ p → F' q = F q :=
  ⟨_, S.freeze w h0, w.leF, ⟨p, kvs, rfl, upd_same, SdRow.mono w.leF row⟩, fun _ n => upd_ne n⟩
end
def thNon (t : Th) : Bool := match t with
  | .d .none => true
  | _ => false
def thIsB (t : Th) (c : Bool) : Bool := match t with
  | .d (.bool b) => decide (b = c)
  | _ => false
section
variable {K : PySem.W.Frag} {P : Addr → Prop} {F0 H0 F H : Hp} {v : V} {a : Th} {Q : VK}
/-- a thing's value is of these kinds -/
def plV : V → Bool
  | .non | .bl _ | .int _ | .str _ | .ref _ => true
  | _ => false
theorem th_pl (r : qTh.r K F v a) : plV v = true ∧ decide (v = .non) = thNon a ∧ ∀ c, decide (v = .bl c) = thIsB a c := by
  cases a with
  | dct =>
    obtain ⟨p, rfl, _⟩ := r
    exact ⟨rfl, by simp [thNon], fun c => by simp [thIsB]⟩
  | d x =>
    cases x with
    | none => cases (show Dp K F v .none from r); exact ⟨rfl, by simp [thNon], fun c => by simp [thIsB]⟩
    | bool b => cases (show Dp K F v (.bool b) from r); exact ⟨rfl, by simp [thNon], fun c => by simp [thIsB]⟩
    | int b => cases (show Dp K F v (.int b) from r); exact ⟨rfl, by simp [thNon], fun c => by simp [thIsB]⟩
    | str b => cases (show Dp K F v (.str b) from r); exact ⟨rfl, by simp [thNon], fun c => by simp [thIsB]⟩
    | list b =>
      cases (show Dp K F v (.list b) from r) with
      | lst h _ => exact ⟨rfl, by simp [thNon], fun c => by simp [thIsB]⟩
    | tuple b =>
      cases (show Dp K F v (.tuple b) from r) with
      | tup h _ => exact ⟨rfl, by simp [thNon], fun c => by simp [thIsB]⟩
    | dict b => cases (show Dp K F v (.dict b) from r)
def rIsBv : R2 := fun x y H Q => ∃ c, y = .bl c ∧ plV x = true ∧ Q (.bl (decide (x = .bl c))) H
theorem op_isBv {X : Cx} : OpR X (compareOp .Is) rIsBv := by
  intro pins s σ H x y v u Q I rx ry h
  obtain ⟨c, rfl, hp, q⟩ := h
  cases ry
  cases x with
  | non => cases rx; exact wpAny_is_plain (by rfl) (fin_bl I q (by simp))
  | bl b =>
    cases rx
    refine wpAny_is_plain (by rfl) (fin_bl I q ?_)
    cases b <;> cases c <;> rfl
  | int i => obtain ⟨t, rfl⟩ := rx; exact wpAny_is_plain (by rfl) (fin_bl I q (by simp))
  | str i => obtain ⟨t, rfl⟩ := rx; exact wpAny_is_plain (by rfl) (fin_bl I q (by simp))
  | ref i => cases rx; exact wpAny_is_plain (by rfl) (fin_bl I q (by simp))
  | _ => cases hp
theorem rd_isBTh {c : Bool} (r : qTh.r K F v a) (k : Q (.bl (thIsB a c)) H) : rIsBv v (.bl c) H Q := ⟨c, rfl, (th_pl r).1, by rw [(th_pl r).2.2 c]; exact k⟩
theorem rd_isNTh (r : qTh.r K F v a) (k : Q (.bl (thNon a)) H) : rIsN0 v .non H Q := ⟨rfl, by rw [(th_pl r).2.1]; exact k⟩
end
/-! ## properties of own classes -/
def prA (K : PySem.W.Frag) (C f : Str) : Addr := match PySem.W.findIn K (.ref (He.ga K C)) f with
  | some (some (.ref p)) => p
  | _ => 0
def geA (K : PySem.W.Frag) (C f : Str) : Addr := match PySem.W.recIn K (prA K C f) "property" with
  | some (.ref g :: _) => g
  | _ => 0
def fnG (K : PySem.W.Frag) (C f : Str) : He.FnW := match K.lookup (geA K C f) with
  | some ⟨_, _, .func z, _⟩ => some (z.name, z.qualname, z.params, z.body, z.scope, z.globals, z.closure, z.builtins)
  | _ => none
def fdG (K : PySem.W.Frag) (C f : Str) : FuncData := match K.lookup (geA K C f) with
  | some ⟨_, _, .func z, _⟩ => z
  | _ => fdDefault
def prB (K : PySem.W.Frag) (C f q : Str) : Bool :=
  He.eqO (PySem.W.findIn K (.ref (He.ga K C)) f) (some (some (.ref (prA K C f)))) && (He.eqO (PySem.W.specialIn K (.ref (prA K C f)) "__get__") (some (some (.builtin "property.__get__"))) && (decide (PySem.W.takesIn K (.ref (prA K C f)) = some true) &&
  ((match PySem.W.recIn K (prA K C f) "property" with
    | some (.ref g :: _) => decide (g = geA K C f)
    | _ => false) && (PySem.W.keepIn K (.ref (geA K C f)) && (match K.lookup (geA K C f) with
    | some ⟨_, _, .func z, _⟩ => PySem.W.codeIn K z.code q && (He.dflB K z.defaults [] && He.kwdB K z.kwdefaults [])
    | _ => false)))))
structure Pr (K : PySem.W.Frag) (C f q : Str) (st : Stmt) : Prop where
  p : PropOf K (He.ga K C) f (prA K C f) (geA K C f)
  F : FunD K f q (defArgs st) (defBody st) (defScope st) [] [] (geA K C f) (fdG K C f)
theorem pr_ok {K : PySem.W.Frag} {C f q : Str} {st : Stmt} (c : prB K C f q = true) (e : fnG K C f = some (f, q, defArgs st, FuncBody.stmts (defBody st), defScope st, mainGlobals, [], builtinsNs)) : Pr K C f q st := by
  unfold prB at c
  obtain ⟨c1, c⟩ := He.ba c
  obtain ⟨c2, c⟩ := He.ba c
  obtain ⟨c3, c⟩ := He.ba c
  obtain ⟨c4, c⟩ := He.ba c
  obtain ⟨c5, c6⟩ := He.ba c
  refine ⟨⟨He.eqO_ok c1, He.eqO_ok c2, of_decide_eq_true c3, ?_⟩, ?_⟩
  · revert c4
    split
    · rename_i g r hr
      intro c4
      exact ⟨r, by rw [hr, of_decide_eq_true c4]⟩
    · intro c4; cases c4
  · unfold fnG at e
    cases hl : K.lookup (geA K C f) with
    | none => rw [hl] at e; cases e
    | some o =>
      obtain ⟨oc, od, dt, osl⟩ := o
      rw [hl] at e c6
      cases dt with
      | func z =>
        have hz : fdG K C f = z := by unfold fdG; rw [hl]
        rw [hz]
        obtain ⟨n1, n2, n3, n4, n5, n6, n7, n8, n9, n10, n11, n12, n13, n14, n15⟩ := z
        have e2 : (some (n1, n2, n3, n4, n5, n6, n7, n15) : He.FnW) = some (f, q, defArgs st, FuncBody.stmts (defBody st), defScope st, mainGlobals, [], builtinsNs) := e
        simp only [Option.some.injEq, Prod.mk.injEq] at e2
        obtain ⟨g1, g2, g3, g4, g5, g6, g7, g8⟩ := e2
        subst g1 g2 g3 g4 g5 g6 g7 g8
        obtain ⟨d1, d2⟩ := He.ba (show (PySem.W.codeIn K n13 _ && (He.dflB K n8 [] && He.kwdB K n9 [])) = true from c6)
        obtain ⟨d3, d4⟩ := He.ba d2
        exact ⟨⟨oc, od, n8, n9, n10, n11, n12, n13, n14, osl, rfl, hl, d1, He.dflB_ok d3, He.kwdB_ok d4⟩, c5⟩
      | _ => cases e
section
variable {K : PySem.W.Frag} {P : Addr → Prop} {F0 H0 F H : Hp} {Q : VK} {σ : L2.St} {C p dx : Addr} {sp : Sp} {dvs : List V} {E : XK} {ta : TE} {fs : List (Str × V)}
def prK (C : Addr) (sp : Sp) (dvs : List V) (E : XK) (Q : VK) : VK := fun x H1 => ∃ a dx fs, x = .ref a ∧ H1 a = some (.ins C dx fs) ∧ sp (.ref a :: dvs) H1 Q E
theorem rd_prop (k : ta σ H (prK C sp dvs E Q)) : tProp C sp dvs E ta σ H Q := k
theorem pr_at (h : H p = some (.ins C dx fs)) (k : sp (.ref p :: dvs) H Q E) : prK C sp dvs E Q (.ref p) H := ⟨p, dx, fs, rfl, h, k⟩
/-! ## C(e, .., k = v, ..) -/
variable {n m : Nat} {gV : List V → List V → List V} {t tk : TA} {vs zs rest : List V}
def mkKk (C : Addr) (n m : Nat) (sp : Sp) (gV : List V → List V → List V) (E : XK) (Q : VK) (vs zs : List V) (H2 : Hp) : Prop := vs.length = n ∧ zs.length = m ∧ ∀ x dx, H2 x = none → H2 dx = none → dx ≠ x → sp (gV (.ref x :: vs) zs) (upd (upd H2 dx (.own x)) x (.ins C dx [])) (fun v H3 => v = .non ∧ Q (.ref x) H3) E
theorem rd_makeK (k : t σ H fun vs H1 => tk σ H1 fun zs H2 => mkKk C n m sp gV E Q vs zs H2) : tMakeK C n m sp gV E t tk σ H Q := k
theorem mkk_at (h1 : vs.length = n) (h2 : zs.length = m) (e : ∀ x, gV (.ref x :: vs) zs = .ref x :: rest) (k : mkK C sp E Q rest H) : mkKk C n m sp gV E Q vs zs H := ⟨h1, h2, fun x dx a b c => by rw [e]; exact k x dx a b c⟩
theorem rd_makeD (k : t σ H (mkK C (fun vs => sp (vs ++ dvs)) E Q)) : tMake C sp dvs E t σ H Q := k
theorem mkd_at (e : vs ++ dvs = rest) (k : mkK C sp E Q rest H) : mkK C (fun us => sp (us ++ dvs)) E Q vs H := fun x dx a b c => by
  show sp (.ref x :: (vs ++ dvs)) _ _ _
  rw [e]; exact k x dx a b c
end
/-! ## dicts whose keys are pairs, of truths, numbers .. -/
def nB (b : Bool) : NestedKey := .num (if b = true then 1 else 0)
theorem nB_inj : ∀ a b : Bool, nB a = nB b → a = b := by decide
def kB : Kd qB := ⟨nB, fun {K F v a} h => by cases (show v = .bl a from h); exact .bl a, nB_inj, fun a => by show 0 ≤ 8; omega⟩
def k2 {α β : Type} {A : R α} {B : R β} (D : Kd A) (G : Kd B) (hd : ∀ a, (D.k a).depth ≤ 3) (hg : ∀ a, (G.k a).depth ≤ 3) : Kd (q2 A B) := ⟨fun x => .tup [D.k x.1, G.k x.2], fun {K F v a} h => by
    obtain ⟨p, u, w, rfl, h1, h2, h3⟩ := h
    exact .tup h1 (.cons (D.is h2) (.cons (G.is h3) .nil)), fun a b h => by
    have e := NestedKey.tup.inj h
    obtain ⟨e1, e2⟩ := List.cons.inj e
    obtain ⟨e2, _⟩ := List.cons.inj e2
    exact Prod.ext (D.inj _ _ e1) (G.inj _ _ e2), fun a => by
    rw [NestedKey.depth]
    have h1 := hd a.1
    have h2 := hg a.2
    simp only [NestedKey.depthAll]
    omega⟩
def kBB : Kd (q2 qB qB) := k2 kB kB (fun _ => by show 0 ≤ 3; omega) (fun _ => by show 0 ≤ 3; omega)
/-! ## own lists of unlike things -/
section
variable {K : PySem.W.Frag} {P : Addr → Prop} {F0 H0 F H : Hp} {p : Addr} {us : List V} {u : V} {Q : VK} {i : Int} {α : Type} {B : RR α} {a : α}
theorem rd_ixO (w : Ow P H0 F H p (.lst us)) (e : atI us i = some u) (k : Q u H) : rIxL K (.ref p) (.int i) H Q := ⟨p, us, i, u, rfl, rfl, SqL.of w.at_, e, k⟩
end
/-! ## the order of tuples of unlike things -/
class OrdR {α : Type} {B : RR α} (E : DatR B) where
  n : Nat
  al : ∀ a b, PySem.W.alikeAll (E.d a) (E.d b) = true
  dep : ∀ a, PyData.depthAll (E.d a) ≤ n
instance orE1 {α : Type} {A : R α} {D : Dat A} [o : Ord1 D] : OrdR (e1 D) where
  n := o.n
  al := fun a b => by
    show PySem.W.alikeAll [D.d a] [D.d b] = true
    simp [PySem.W.alikeAll, o.al]
  dep := fun a => by
    show PyData.depthAll [D.d a] ≤ _
    have := o.dep a
    simp only [PyData.depthAll]
    omega
instance orEc {α β : Type} {A : R α} {B : RR β} {D : Dat A} {E : DatR B} [o : Ord1 D] [p : OrdR E] : OrdR (ec D E) where
  n := max o.n p.n
  al := fun a b => by
    show PySem.W.alikeAll (D.d a.1 :: E.d a.2) (D.d b.1 :: E.d b.2) = true
    rw [PySem.W.alikeAll, o.al, p.al]; rfl
  dep := fun a => by
    show PyData.depthAll (D.d a.1 :: E.d a.2) ≤ _
    have h1 := o.dep a.1
    have h2 := p.dep a.2
    simp only [PyData.depthAll]
    omega
instance orTr {α β : Type} {A : R α} {B : RR β} {D : Dat A} {E : DatR B} [o : Ord1 D] [p : OrdR E] : Ordd (dTr (ec D E)) where
  n := max o.n p.n + 1
  al := fun a b => by
    show PySem.W.alike (.tuple ((ec D E).d a)) (.tuple ((ec D E).d b)) = true
    rw [PySem.W.alike]; exact (orEc (D := D) (E := E)).al a b
  dep := fun a => by
    show (PyData.tuple ((ec D E).d a)).depth ≤ _
    rw [PyData.depth]
    have := (orEc (D := D) (E := E)).dep a
    exact Nat.succ_le_succ this
  srt := fun bs => PySem.W.Sortable.tuples fun b => ⟨_, _, rfl⟩
end Gl
namespace Gl
open PySem PySem.Spec PyProof.Rows L2 C8
section
variable {α : Type} {A : R α} {K : PySem.W.Frag} {F H H0 : Hp} {P : Addr → Prop} {p : Addr} {vs : List V} {xs : List α}
theorem Ow.dS (w : Ow P H0 F H p (.lst vs)) (S : Same F H) (D : Dat A) (r : Row A K F vs xs) : SeenD (dL D) K H (.ref p) xs := .lst (SqL.of w.at_) (dpAll D (Row.mono S r))
end
end Gl
namespace Gl
open PySem PySem.Spec PyProof.Rows L2
/-! ## keys of texts, of what may be None, of tuples of unlike things -/
/-- a key's depth -/
class KDp {α : Type} {A : R α} (D : Kd A) where
  n : Nat
  le : ∀ a, (D.k a).depth ≤ n
  nn : ∀ a, D.k a ≠ .none
instance : KDp kI := ⟨0, fun _ => Nat.le_refl _, fun _ h => by cases h⟩
instance : KDp kB := ⟨0, fun _ => Nat.le_refl _, fun _ h => by cases h⟩
def kS : Kd qS := ⟨.text, fun {K F v a} h => by cases (show v = .str a from h); exact .txt a, fun a b h => by cases h; rfl, fun a => by show 0 ≤ 8; omega⟩
instance : KDp kS := ⟨0, fun _ => Nat.le_refl _, fun _ h => by cases h⟩
def kO {α : Type} {A : R α} (D : Kd A) [i : KDp D] : Kd (qO A) := ⟨fun o => match o with
  | none => .none
  | some a => D.k a, fun {K F v a} h => by
    cases a with
    | none => cases (show v = .non from h); exact .non
    | some a => exact D.is h, fun a b h => by
    cases a with
    | none => cases b with
      | none => rfl
      | some b => exact absurd h.symm (i.nn b)
    | some a => cases b with
      | none => exact absurd h (i.nn a)
      | some b => exact congrArg some (D.inj a b h), fun a => by
    cases a with
    | none => show 0 ≤ 8; omega
    | some a => exact D.dep a⟩
structure KdR {α : Type} (B : RR α) where
  ks : α → List NestedKey
  is : ∀ {K : PySem.W.Frag} {F : Hp} {vs : List V} {a : α}, B.r K F vs a → NKs K F (ks a) vs
  inj : ∀ a b : α, ks a = ks b → a = b
  dep : ∀ a : α, NestedKey.depthAll (ks a) ≤ 7
class KLow {α : Type} {A : R α} (D : Kd A) : Prop where
  le : ∀ a, (D.k a).depth ≤ 7
instance : KLow kI := ⟨fun _ => by show 0 ≤ 7; omega⟩
instance : KLow kB := ⟨fun _ => by show 0 ≤ 7; omega⟩
instance : KLow kS := ⟨fun _ => by show 0 ≤ 7; omega⟩
instance {α : Type} {A : R α} {D : Kd A} [i : KDp D] [j : KLow D] : KLow (kO D) := ⟨fun a => by
  cases a with
  | none => show 0 ≤ 7; omega
  | some a => exact j.le a⟩
instance : KLow kBB := ⟨fun a => by
  show NestedKey.depth (.tup [nB a.1, nB a.2]) ≤ 7
  rw [NestedKey.depth]
  simp only [NestedKey.depthAll]
  have h1 : (nB a.1).depth = 0 := rfl
  have h2 : (nB a.2).depth = 0 := rfl
  omega⟩
def g1 {α : Type} {A : R α} (D : Kd A) [i : KLow D] : KdR (f1 A) := ⟨fun a => [D.k a], fun ⟨u, h1, h2⟩ => by subst h1; exact .cons (D.is h2) .nil, fun a b h => D.inj _ _ (List.cons.inj h).1, fun a => by
  simp only [NestedKey.depthAll]
  have := i.le a
  omega⟩
end Gl
namespace Gl
open PySem PySem.Spec PyProof.Rows L2
end Gl
namespace Gl
open PySem PySem.Spec PyProof.Rows L2
end Gl
namespace Gl
open PySem PySem.Spec PyProof.Rows L2 C8
/-! ## {**d, **e}: one dict behind the other, in a new one -/
section
variable {prog : Program} {w : World} {A : Around} {E : Value → Shared → Prop} {s : Shared}
theorem put_any {d : Addr} {kvs : List (Key × Value)} {k : Key} {key v : Value} {Q : Unit → Shared → Prop} (hkey : (mixKind prog w).is k key = true) (hm : s.heap.DictOf (mixKind prog w) d kvs) (hsz : kvs.length ≤ sizeLine)
    (hQ : ∀ h', h'.DictOf (mixKind prog w) d (stored kvs k v) → Heap.SameBut d s.heap h' → Q () { s with heap := h' }) :
    wpAny (model prog w) A (dictPut d ((mixKind prog w).hash k) key v) Q E s := by
  obtain ⟨o, es, ep, ho, hc, hd, hk, hp, hnd⟩ := id hm
  have hes : es.size ≤ sizeLine := by
    have e1 := hp.length
    have e2 : es.toList.length = es.size := by simp
    omega
  unfold dictPut
  refine wpAny_bind (wpAny_dictFind_of hkey ho hd hk ?_)
  have hidx : (es.findIdx? fun e => (mixKind prog w).is k e.key) = kvs.findIdx? fun kv => decide (kv.1 = k) := by
    rw [← hp.findIdx k]; obtain ⟨l⟩ := es; simp
  cases hi : es.findIdx? fun e => (mixKind prog w).is k e.key with
  | some i =>
    refine wpAny_updateDict ho hd (hQ _ ⟨_, _, ep, Heap.get?_update_self _ ho (Obj.isFreed_of_dict (Obj.data_mapDict hd _)), hc.mapDict _, Obj.data_mapDict hd _, hk.modify _ _, ?_, ?_⟩ (Heap.SameBut.update ..))
    · rw [stored, if_pos (any_of_findIdx_some (hidx ▸ hi))]
      have hl : (es.toList.findIdx? fun e => (mixKind prog w).is k e.key) = some i := by rw [← hi]; obtain ⟨l⟩ := es; simp
      have := hp.modify hnd hl v
      obtain ⟨l⟩ := es
      simpa using this
    · rw [stored, if_pos (any_of_findIdx_some (hidx ▸ hi)), keys_map_store]; exact hnd
  | none =>
    have hnot : k ∉ kvs.map (·.1) := not_mem_of_findIdx_none (hidx ▸ hi)
    have hany : ¬ (kvs.any fun kv => decide (kv.1 = k)) = true := by
      rw [List.any_eq_true]; rintro ⟨kv, hkv, he⟩
      exact hnot (List.mem_map.mpr ⟨kv, hkv, of_decide_eq_true he⟩)
    refine wpAny_updateDictKeys (hz := hes) ho hd (hQ _ ⟨_, _, ep + 1, Heap.get?_update_self _ ho (Obj.isFreed_of_dict (Obj.data_mapDictKeys hd _)), hc.mapDictKeys _, Obj.data_mapDictKeys hd _, hk.push hkey _, ?_, ?_⟩ (Heap.SameBut.update ..))
    · rw [stored, if_neg hany]
      have := hp.append hkey ((mixKind prog w).hash k) v
      obtain ⟨l⟩ := es
      simpa using this
    · rw [stored, if_neg hany, List.map_append, List.nodup_append]
      refine ⟨hnd, by simp, ?_⟩
      intro a ha b hb
      simp only [List.map_cons, List.map_nil, List.mem_singleton] at hb
      subst hb
      exact fun e => hnot (e ▸ ha)
theorem stored_len (kvs : List (Key × Value)) (k : Key) (v : Value) : (stored kvs k v).length ≤ kvs.length + 1 := by
  unfold stored
  split
  · rw [List.length_map]; exact Nat.le_succ _
  · rw [List.length_append]; exact Nat.le_refl _
theorem merged_len : ∀ (more kvs : List (Key × Value)), (merged kvs more).length ≤ kvs.length + more.length
  | [], kvs => Nat.le_refl _
  | x :: more, kvs => by
    have h1 := merged_len more (stored kvs x.1 x.2)
    have h2 := stored_len kvs x.1 x.2
    have : merged kvs (x :: more) = merged (stored kvs x.1 x.2) more := rfl
    rw [this, List.length_cons]; omega
theorem merged_snoc (kvs more : List (Key × Value)) (x : Key × Value) : merged kvs (more ++ [x]) = stored (merged kvs more) x.1 x.2 := by
  unfold merged
  rw [List.foldl_append]; rfl
theorem merge_any {d o : Addr} {kvs more : List (Key × Value)} {Q : Unit → Shared → Prop} (hdo : d ≠ o) (hoS : (o == sysModules) = false) (hd : s.heap.DictOf (mixKind prog w) d kvs) (ho : s.heap.DictOf (mixKind prog w) o more) (hsz : kvs.length + more.length ≤ sizeLine)
    (hQ : ∀ h', h'.DictOf (mixKind prog w) d (merged kvs more) → Heap.SameBut d s.heap h' → Q () { s with heap := h' }) : wpAny (model prog w) A (mergeMapping d (.ref o) false) Q E s := by
  obtain ⟨od, esd, epd, hod, hcd, hdd, hkd, hpd, hnd⟩ := id hd
  obtain ⟨oo, eso, epo, hoo, hco, hdo', hko, hpo, hno⟩ := id ho
  have hlen : more.length = eso.size := by rw [← hpo.length]; simp
  unfold mergeMapping
  refine wpAny_bind (wpAny_isInstance ho.typeIs isSubtype_dict_dict ?_)
  rw [if_pos rfl]
  refine wpAny_bind (wpAny_specialOf ho.typeIs F.slot_dict_iter.lookup (wpAny_bind (wpAny_pure ?_)))
  rw [show ((some (Value.builtin "dict.__iter__") : Option Value) == some (Value.builtin "dict.__iter__")) = true from beq_self_eq_true _]
  dsimp only
  rw [if_neg (by rw [hoS]; exact Bool.false_ne_true)]
  refine wpAny_bind (wpAny_dictEntries hod hdd ?_)
  have key : ∀ e ∈ eso.toList, ∃ k, (mixKind prog w).is k e.key = true ∧ e.hash = (mixKind prog w).hash k := fun e he => hko e (Array.mem_toList_iff.mp he)
  by_cases he : esd.isEmpty = true
  · rw [if_pos he]
    refine wpAny_bind (wpAny_dictEntries hoo hdo' ?_)
    refine wpAny_bind (wpAny_of_eq (a := PUnit.unit) ?_ ?_)
    · rw [← Array.forIn_toList]
      refine forIn_yield_id _ fun e he c => ?_
      obtain ⟨k, hkey, _⟩ := key e he
      rcases keyIs_shape hkey with ⟨i, t, _, e2⟩ | ⟨x, t, _, e2⟩ <;> rw [e2]
    refine wpAny_bind (wpAny_dictEntries hoo hdo' (wpAny_bind (wpAny_dictEpoch hoo hdo' (wpAny_bind ?_))))
    refine wpAny_forIn_list _
      (fun rest _ s' => ∃ h' i, s' = { s with heap := h' } ∧ rest = List.range' i (eso.size - i) ∧ i ≤ eso.size ∧ h'.DictOf (mixKind prog w) d (merged kvs (more.take i)) ∧ h'.get? o = some oo ∧ Heap.SameBut d s.heap h')
      _ ?_ ?_ _ _ ⟨s.heap, 0, rfl, by rw [List.range_eq_range', Nat.sub_zero], Nat.zero_le _, by rw [List.take_zero]; exact hd, hoo, Heap.SameBut.refl _ _⟩
    · rintro x rest b s' ⟨h', i, rfl, hr, hi, hd', hoo', hs'⟩
      have hlt : i < eso.size := by
        rcases Nat.lt_or_ge i eso.size with h | h
        · exact h
        · rw [Nat.sub_eq_zero_of_le h] at hr; cases hr
      obtain ⟨rfl, hrest⟩ : x = i ∧ rest = List.range' (i + 1) (eso.size - (i + 1)) := by
        have e : eso.size - i = (eso.size - (i + 1)) + 1 := by omega
        rw [e, List.range'_succ] at hr
        exact ⟨(List.cons.inj hr).1, (List.cons.inj hr).2⟩
      refine wpAny_bind (wpAny_dictEntries hoo' hdo' ?_)
      rw [Array.getElem?_eq_getElem hlt]
      obtain ⟨kv, hkv⟩ : ∃ kv, more[x]? = some kv := ⟨more[x]'(by rw [hlen]; exact hlt), List.getElem?_eq_getElem _⟩
      obtain ⟨k, v⟩ := kv
      obtain ⟨hkey, hval⟩ := hpo.get? (e := eso[x]) (by simp [hlt]) hkv
      obtain ⟨k', hkey', hhash⟩ := hko eso[x] (Array.getElem_mem hlt)
      obtain rfl : k' = k := (mixKind prog w).inj _ _ _ hkey' hkey
      have lt : (more.take x).length ≤ more.length := by rw [List.length_take]; omega
      have ml := merged_len (more.take x) kvs
      have tk : more.take (x + 1) = more.take x ++ [(k', v)] := by rw [List.take_add_one, hkv]; rfl
      dsimp only
      rw [if_neg (by decide), hhash, hval]
      refine wpAny_bind (wpAny_holding (put_any (kvs := merged kvs (more.take x)) hkey hd' (by omega) fun h'' hd'' hs'' => ?_))
      have hoo'' : h''.get? o = some oo := (hs''.2 o (Ne.symm hdo)).trans hoo'
      refine wpAny_bind (wpAny_dictEpoch hoo'' hdo' ?_)
      rw [if_neg (by simp)]
      exact wpAny_pure ⟨h'', x + 1, rfl, hrest, hlt, by rw [tk, merged_snoc]; exact hd'', hoo'', hs'.trans hs''⟩
    · rintro b s' ⟨h', i, rfl, hr, hi, hd', hoo', hs'⟩
      have hin : i = eso.size := by
        rcases Nat.lt_or_ge i eso.size with h | h
        · have e : eso.size - i = (eso.size - (i + 1)) + 1 := by omega
          rw [e, List.range'_succ] at hr; cases hr
        · exact Nat.le_antisymm hi h
      refine wpAny_pure (hQ h' ?_ hs')
      rw [hin, ← hlen, List.take_length] at hd'; exact hd'
  · rw [if_neg he]
    refine wpAny_bind (wpAny_dictEntries hoo hdo' (wpAny_bind (wpAny_dictEpoch hoo hdo' (wpAny_bind ?_))))
    refine wpAny_forIn_list _
      (fun rest _ s' => ∃ h' i, s' = { s with heap := h' } ∧ rest = List.range' i (eso.size - i) ∧ i ≤ eso.size ∧ h'.DictOf (mixKind prog w) d (merged kvs (more.take i)) ∧ h'.get? o = some oo ∧ Heap.SameBut d s.heap h')
      _ ?_ ?_ _ _ ⟨s.heap, 0, rfl, by rw [List.range_eq_range', Nat.sub_zero], Nat.zero_le _, by rw [List.take_zero]; exact hd, hoo, Heap.SameBut.refl _ _⟩
    · rintro x rest b s' ⟨h', i, rfl, hr, hi, hd', hoo', hs'⟩
      have hlt : i < eso.size := by
        rcases Nat.lt_or_ge i eso.size with h | h
        · exact h
        · rw [Nat.sub_eq_zero_of_le h] at hr; cases hr
      obtain ⟨rfl, hrest⟩ : x = i ∧ rest = List.range' (i + 1) (eso.size - (i + 1)) := by
        have e : eso.size - i = (eso.size - (i + 1)) + 1 := by omega
        rw [e, List.range'_succ] at hr
        exact ⟨(List.cons.inj hr).1, (List.cons.inj hr).2⟩
      refine wpAny_bind (wpAny_dictEntries hoo' hdo' ?_)
      rw [Array.getElem?_eq_getElem hlt]
      obtain ⟨kv, hkv⟩ : ∃ kv, more[x]? = some kv := ⟨more[x]'(by rw [hlen]; exact hlt), List.getElem?_eq_getElem _⟩
      obtain ⟨k, v⟩ := kv
      obtain ⟨hkey, hval⟩ := hpo.get? (e := eso[x]) (by simp [hlt]) hkv
      obtain ⟨k', hkey', hhash⟩ := hko eso[x] (Array.getElem_mem hlt)
      obtain rfl : k' = k := (mixKind prog w).inj _ _ _ hkey' hkey
      have lt : (more.take x).length ≤ more.length := by rw [List.length_take]; omega
      have ml := merged_len (more.take x) kvs
      have tk : more.take (x + 1) = more.take x ++ [(k', v)] := by rw [List.take_add_one, hkv]; rfl
      dsimp only
      rw [if_neg (by decide), hhash, hval]
      refine wpAny_bind (wpAny_holding (put_any (kvs := merged kvs (more.take x)) hkey hd' (by omega) fun h'' hd'' hs'' => ?_))
      have hoo'' : h''.get? o = some oo := (hs''.2 o (Ne.symm hdo)).trans hoo'
      refine wpAny_bind (wpAny_dictEpoch hoo'' hdo' ?_)
      rw [if_neg (by simp)]
      exact wpAny_pure ⟨h'', x + 1, rfl, hrest, hlt, by rw [tk, merged_snoc]; exact hd'', hoo'', hs'.trans hs''⟩
    · rintro b s' ⟨h', i, rfl, hr, hi, hd', hoo', hs'⟩
      have hin : i = eso.size := by
        rcases Nat.lt_or_ge i eso.size with h | h
        · have e : eso.size - i = (eso.size - (i + 1)) + 1 := by omega
          rw [e, List.range'_succ] at hr; cases hr
        · exact Nat.le_antisymm hi h
      refine wpAny_pure (hQ h' ?_ hs')
      rw [hin, ← hlen, List.take_length] at hd'; exact hd'
/-- two dicts splatted into a display -/
theorem splat2 {x1 x2 : Sem Value} {Q : Value → Shared → Prop} (h : wpAny (model prog w) A x1 (fun v1 s1 => ∃ o more, v1 = .ref o ∧ s.heap.objs.size ≠ o ∧ (o == sysModules) = false ∧ s1.heap.DictOf (mixKind prog w) s.heap.objs.size [] ∧ s1.heap.DictOf (mixKind prog w) o more ∧ more.length ≤ sizeLine ∧
      ∀ h', h'.DictOf (mixKind prog w) s.heap.objs.size (merged [] more) → Heap.SameBut s.heap.objs.size s1.heap h' →
        wpAny (model prog w) A x2 (fun v2 s2 => ∃ o2 bs more2, v2 = .ref o2 ∧ s.heap.objs.size ≠ o2 ∧ (o2 == sysModules) = false ∧ s2.heap.DictOf (mixKind prog w) s.heap.objs.size bs ∧ s2.heap.DictOf (mixKind prog w) o2 more2 ∧ bs.length + more2.length ≤ sizeLine ∧
          ∀ h2, h2.DictOf (mixKind prog w) s.heap.objs.size (merged bs more2) → Heap.SameBut s.heap.objs.size s2.heap h2 → Q (.ref s.heap.objs.size) { s2 with heap := h2 }) E { s1 with heap := h' }) E { s with heap := s.heap.push { cls := .type "dict", data := .dict #[] } }) :
    wpAny (model prog w) A (dictDisplay [(none, x1), (none, x2)]) Q E s := by
  unfold dictDisplay
  dsimp only
  refine wpAny_bind ?_
  rw [List.forIn_cons]
  dsimp only
  rw [if_pos (by rfl)]
  refine wpAny_bind (wpAny_bind (wpAny_pure ?_))
  dsimp only
  refine wpAny_bind (wpAny_alloc (wpAny_bind (wpAny_holding (wpAny_mono h (fun v1 s1 ⟨o, more, e1, n1, n2, d1, d2, l, hq⟩ => ?_) fun _ _ z => z))))
  subst e1
  refine wpAny_bind (wpAny_onRaise (wpAny_tryCatch (wpAny_onRaise (wpAny_holding (merge_any n1 n2 d1 d2 (by rw [List.length_nil, Nat.zero_add]; exact l) fun h' d3 sb => ?_)))))
  refine wpAny_pure ?_
  dsimp only
  rw [List.forIn_cons]
  dsimp only
  rw [if_pos (by rfl)]
  refine wpAny_bind (wpAny_bind (wpAny_pure ?_))
  dsimp only
  refine wpAny_bind (wpAny_pure (wpAny_bind (wpAny_holding (wpAny_mono (hq h' d3 sb) (fun v2 s2 ⟨o2, bs, more2, e2, m1, m2, f1, f2, l2, hq2⟩ => ?_) fun _ _ z => z))))
  subst e2
  refine wpAny_bind (wpAny_onRaise (wpAny_tryCatch (wpAny_onRaise (wpAny_holding (merge_any m1 m2 f1 f2 l2 fun h2 f3 sb2 => ?_)))))
  refine wpAny_pure ?_
  dsimp only
  rw [List.forIn_nil]
  refine wpAny_pure ?_
  rw [if_pos (by rfl)]
  exact wpAny_bind (wpAny_pure (wpAny_pure (hq2 h2 f3 sb2)))
end
/-- {**e, **f} -/
def tSplat (t1 t2 : TE) : TE := fun σ H Q => ∀ p, H p = none → t1 σ (upd H p (.dK [])) fun y H1 => ∃ (o : Addr) (kvs : List (Key × V)), y = .ref o ∧ p ≠ o ∧ H1 p = some (.dK []) ∧ Rd H1 o (.dK kvs) ∧ kvs.length ≤ 100 ∧
  t2 σ (upd H1 p (.dK (mergeK [] kvs))) fun z H2 => ∃ (o2 : Addr) (more : List (Key × V)), z = .ref o2 ∧ p ≠ o2 ∧ H2 p = some (.dK (mergeK [] kvs)) ∧ Rd H2 o2 (.dK more) ∧ more.length ≤ 100 ∧ Q (.ref p) (upd H2 p (.dK (mergeK (mergeK [] kvs) more)))
section
variable {X : Cx} {e1 e2 : Expr} {t1 t2 : TE} {pos : Pos}
theorem pe_splat (h1 : PE X e1 t1) (h2 : PE X e2 t2) : PE X (.Dict [none, none] [e1, e2] pos) (tSplat t1 t2) := by
  refine ⟨fun pins s σ H Q I q => ?_⟩
  have hn := I.hok.fresh (Nat.le_refl s.heap.objs.size)
  have I1 := I.laid (a := s.heap.objs.size) (o := .dK []) (h' := s.heap.push { cls := .type "dict", data := .dict #[] }) (t' := s.toks) (fun _ _ q => Heap.get?_push_of_some _ q) (Nat.le_refl _) (dk_empty s.heap I.big)
  have ml : ∀ kvs more : List (Key × V), (mergeK kvs more).length ≤ kvs.length + more.length := fun kvs more => length_mergeK more kvs
  have big : 1000 ≤ sizeLine := by rw [sizeLine_eq]; decide
  show wpAny _ _ (do standAt pos; dictDisplay [(none, do let x ← eval e1 X.env; standAt pos; pure x), (none, do let x ← eval e2 X.env; standAt pos; pure x)]) _ _ _
  refine wpAny_bind (wpAny_standAt ?_)
  refine splat2 (wpAny_bind (thn (h1.run pins _ σ _ _ I1 (q _ hn)) fun v1 s1 ⟨y, H1, I2, ry, o, kvs, e1, n1, hp, ho, lk, q2⟩ => wpAny_bind (wpAny_standAt (wpAny_pure ?_))))
  subst e1
  obtain rfl : v1 = Value.ref o := ry
  obtain ⟨z, hs, xs, rel, dd⟩ := dk_rd I2.hok ho
  obtain ⟨z0, hs0, xs0, rel0, dd0⟩ := dk_of I2.hok hp
  cases rel0
  have lx : xs.length ≤ 100 := by rw [← rel.length]; exact lk
  refine ⟨o, xs, rfl, n1, hs, dd0, dd, by omega, fun h' d3 sb => ?_⟩
  have mk := ml [] kvs
  rw [List.length_nil] at mk
  have r3 := rel.merge .nil
  have he2 : ∃ q, h'.get? s.heap.objs.size = some q := let ⟨q, _, _, hq, _⟩ := d3; ⟨q, hq⟩
  have I3 := d_write (t' := s1.toks) I2 (by rw [hp]; exact True.intro) sb he2 (dk_new (by omega) hs0 r3 d3)
  refine wpAny_bind (thn (h2.run pins _ σ _ _ I3 q2) fun v2 s2 ⟨y2, H2, I4, ry2, o2, more, e2, n2, hp2, ho2, lk2, q3⟩ => wpAny_bind (wpAny_standAt (wpAny_pure ?_)))
  subst e2
  obtain rfl : v2 = Value.ref o2 := ry2
  obtain ⟨z2, hs2, xs2, rel2, dd2⟩ := dk_rd I4.hok ho2
  obtain ⟨z4, hs4, xs4, rel4, dd4⟩ := dk_of I4.hok hp2
  have lx2 : xs2.length ≤ 100 := by rw [← rel2.length]; exact lk2
  have lm : xs4.length ≤ 100 := by rw [← rel4.length]; omega
  refine ⟨o2, xs4, xs2, rfl, n2, hs2, dd4, dd2, by omega, fun h2 f3 sb2 => ?_⟩
  have mk2 := ml (mergeK [] kvs) more
  have he3 : ∃ q, h2.get? s.heap.objs.size = some q := let ⟨q, _, _, hq, _⟩ := f3; ⟨q, hq⟩
  exact ⟨.ref s.heap.objs.size, _, d_write (t' := s2.toks) I4 (by rw [hp2]; exact True.intro) sb2 he3 (dk_new (by omega) hs4 (rel2.merge rel4) f3), rfl, q3⟩
end
/-! ## o.m(k = v), the method's last parameter takes all keywords: a dict of its own -/
theorem push_upd (h : Heap) (o : Obj) (f : Obj → Obj) : (h.push o).update h.objs.size f = h.push (f o) := by
  obtain ⟨xs, l⟩ := h
  show (⟨(xs.push o).modify xs.size f, l⟩ : Heap) = ⟨xs.push (f o), l⟩
  congr 1
  refine Array.ext (by simp) fun i h1 h2 => ?_
  rw [Array.getElem_modify]
  by_cases e : xs.size = i
  · subst e
    simp
  · rw [if_neg e]
    have hl : i < xs.size := by
      rw [Array.size_modify, Array.size_push] at h1; omega
    rw [Array.getElem_push_lt hl, Array.getElem_push_lt hl]
/-! ## a dict of settings over another; an instance let stand -/
def putSd (k : Str) (t : Th) (xs : List (Str × Th)) : List (Str × Th) := if (xs.any fun x => decide (x.1 = k)) = true then xs.map (fun x => if x.1 = k then (x.1, t) else x) else xs ++ [(k, t)]
def mergeSd (xs more : List (Str × Th)) : List (Str × Th) := more.foldl (fun a x => putSd x.1 x.2 a) xs
section
variable {K : PySem.W.Frag} {F : Hp}
theorem SdRow.put {k : Str} {u : V} {t : Th} {kvs : List (Key × V)} {xs : List (Str × Th)} (r : SdRow K F kvs xs) (h : qTh.r K F u t) : SdRow K F (putK kvs (.inr k) u) (putSd k t xs) := by
  have e : (kvs.any fun kv => decide (kv.1 = (.inr k : Key))) = (xs.any fun x => decide (x.1 = k)) := by
    induction r with
    | nil => rfl
    | cons p q ih => rw [List.any_cons, List.any_cons, ih, p.1]; congr 1; exact decide_eq_decide.mpr ⟨fun z => Sum.inr.inj z, fun z => congrArg _ z⟩
  unfold putK putSd
  rw [e]
  split
  · rename_i hh; clear hh e
    induction r with
    | nil => exact .nil
    | @cons a b _ _ p q ih =>
      refine .cons ?_ ih
      show (if a.1 = .inr k then (a.1, u) else a).1 = Sum.inr (if b.1 = k then (b.1, t) else b).1 ∧ qTh.r K F (if a.1 = .inr k then (a.1, u) else a).2 (if b.1 = k then (b.1, t) else b).2
      by_cases z : b.1 = k
      · rw [if_pos z, if_pos (by rw [p.1, z])]; exact ⟨p.1, h⟩
      · rw [if_neg z, if_neg (by rw [p.1]; exact fun y => z (Sum.inr.inj y))]; exact p
  · rename_i hh; clear hh e
    induction r with
    | nil => exact .cons ⟨rfl, h⟩ .nil
    | cons p q ih => exact .cons p ih
theorem SdRow.merge {kvs more : List (Key × V)} {xs ys : List (Str × Th)} (r : SdRow K F kvs xs) (r2 : SdRow K F more ys) : SdRow K F (mergeK kvs more) (mergeSd xs ys) := by
  unfold SdRow at r2
  induction r2 generalizing kvs xs with
  | nil => exact r
  | @cons a b as bs p q ih =>
    show SdRow K F (mergeK (putK kvs a.1 a.2) as) (mergeSd (putSd b.1 b.2 xs) bs)
    rw [p.1]
    exact ih (r.put p.2)
end
theorem upd_upd {H : Hp} {p : Addr} {a b : HO} : upd (upd H p a) p b = upd H p b := by
  funext q
  by_cases e : q = p
  · subst e; rw [upd_same, upd_same]
  · rw [upd_ne e, upd_ne e, upd_ne e]
section
variable {K : PySem.W.Frag} {P : Addr → Prop} {F0 H0 F H : Hp} {v1 v2 : V} {xs ys : List (Str × Th)} {t1 t2 : TE} {σ : L2.St} {Q : VK}
theorem SdRow.len {kvs : List (Key × V)} (r : SdRow K F kvs xs) : kvs.length = xs.length := by
  induction r with
  | nil => rfl
  | cons _ _ ih => rw [List.length_cons, List.length_cons, ih]
/-- {**d, **e} of settings -/
theorem rd_splat (S : Sx P F0 H0 F H) (r1 : qSd.r K F v1 xs) (r2 : qSd.r K F v2 ys) (l1 : xs.length ≤ 100) (l2 : ys.length ≤ 100)
    (e1 : ∀ p o (Q : VK), H p = none → Q v1 (upd H p o) → t1 σ (upd H p o) Q) (e2 : ∀ p o (Q : VK), H p = none → Q v2 (upd H p o) → t2 σ (upd H p o) Q)
    (k : ∀ u F' H', Sx P0 F H F' H' → qSd.r K F' u (mergeSd (mergeSd [] xs) ys) → Q u H') : tSplat t1 t2 σ H Q := by
  obtain ⟨o1, k1, rfl, a1, b1⟩ := r1
  obtain ⟨o2, k2, rfl, a2, b2⟩ := r2
  intro p hp
  have n1 : p ≠ o1 := fun e => by subst e; have := S.sub _ _ a1; rw [hp] at this; cases this
  have n2 : p ≠ o2 := fun e => by subst e; have := S.sub _ _ a2; rw [hp] at this; cases this
  refine e1 p _ _ hp ⟨o1, k1, rfl, n1, upd_same, ?_, by rw [b1.len]; exact l1, ?_⟩
  · show Rd _ _ _
    exact .inl (by rw [upd_ne (Ne.symm n1)]; exact S.sub _ _ a1)
  rw [upd_upd]
  refine e2 p _ _ hp ⟨o2, k2, rfl, n2, upd_same, ?_, by rw [b2.len]; exact l2, ?_⟩
  · show Rd _ _ _
    exact .inl (by rw [upd_ne (Ne.symm n2)]; exact S.sub _ _ a2)
  rw [upd_upd]
  have S2 := (Sx.refl0 (F := F) (H := H) S.sub).alloc (o := .dK (mergeK (mergeK [] k1) k2)) hp
  have row : SdRow K F (mergeK (mergeK [] k1) k2) (mergeSd (mergeSd [] xs) ys) := (SdRow.merge .nil b1).merge b2
  exact k _ _ _ S2 ⟨p, _, rfl, upd_same, row.mono S2.le⟩
end
end Gl
namespace Gl
open PySem PySem.Spec PyProof.Rows L2
end Gl
namespace Gl
open PySem PySem.Spec PyProof.Rows L2
end Gl
namespace Gl
open PySem PySem.Spec PyProof.Rows L2
/-! ## a name's kind, decided -/
theorem dk {p : Prop} [Decidable p] (h : decide p = true) : p := of_decide_eq_true h
instance locDec {sc : Scope} {x : Str} : Decidable (Loc sc x) := inferInstanceAs (Decidable (sc.names.lookup x = some .local ∨ sc.names.lookup x = some .cell))
end Gl
namespace Gl
open PySem PySem.Spec PyProof.Rows L2
/-! ## a != b, a of a class with an == of its own and no != -/
structure OwnNe (K : PySem.W.Frag) (C : Addr) : Prop where
  ne : PySem.W.findIn K (.ref C) "__ne__" = some (some (.builtin "object.__ne__"))
  mro : PySem.W.mroIn K C (.type "object") = some true
end Gl
namespace Gl
open PySem PySem.W PySem.Calls PyProof.Rows
end Gl
namespace Gl
open PySem PySem.Spec PyProof.Rows L2
/-! ## what a class of one's own with an == must have -/
structure OwnE (K : PySem.W.Frag) (C : Str) : Prop where
  eq : OwnEq K (He.ga K C) (He.fAd K (C, some "__eq__"))
  ne : OwnNe K (He.ga K C)
  ni : PySem.W.notFirst K (He.ga K C) (.type "int") = true
  np : ∀ y, isPatC y → PySem.W.notFirst K (He.ga K C) (.ref (He.ga K y)) = true
  isa : PySem.W.kitOne K (.ref (He.ga K C)) (.ref (He.ga K C)) = some true
  isi : PySem.W.kitOne K (.type "int") (.ref (He.ga K C)) = some false
  isp : ∀ y, isPatC y → PySem.W.kitOne K (.ref (He.ga K y)) (.ref (He.ga K C)) = some false
  ins : InsF K (He.ga K C)
end Gl
namespace Gl
open PySem PySem.Spec PyProof.Rows L2
end Gl
namespace Gl
open PySem PySem.Spec PyProof.Rows L2
end Gl
namespace Gl
open PySem PySem.Spec PyProof.Rows L2
end Gl
namespace Gl
open PySem PySem.Spec PyProof.Rows L2
end Gl
namespace Gl
open PySem PySem.Spec PyProof.Rows L2
end Gl
namespace Gl
open PySem PySem.Spec PyProof.Rows L2
/-! ## lists made since a view G: they may be changed once all else that was made since is let go -/
def qLF {α : Type} (G : Hp) (A : R α) : R (List α) := ⟨fun K F v xs => (qL A).r K F v xs ∧ ∃ q, v = .ref q ∧ G q = none, fun e h => ⟨(qL A).mono e h.1, h.2⟩⟩
section
variable {P : Addr → Prop} {F0 H0 F H G : Hp} {Q : VK} {α : Type} {A : R α} {K : PySem.W.Frag}
theorem alLF' {xs : List α} (S : Sx P F0 H0 F H) (le : Same G F) (k : ∀ v F' H', Sx P0 F H F' H' → (qLF G A).r K F' v xs → Q v H') : nL A K F Q H xs :=
  fun p us hp r => k _ _ _ ((Sx.refl0 S.sub).alloc hp) ⟨⟨p, us, rfl, upd_same, Row.mono (S.leN hp) r⟩, p, rfl, le.free (S.free hp)⟩
end
end Gl
namespace Gl
open PySem PySem.Spec PyProof.Rows L2
section
variable {X : Cx} {k : Nat} {f : Addr} {fd : FuncData} {ps : List Str} {sp : Sp} {x : Str} {q pos : Pos} {e : Expr} {ta : TA} {p : Addr × Obj}
/-! isinstance of a pinned error -/
variable {D : Addr} {cls : Value} {d : Option Addr} {a : Addr} {oe : Obj}
end
end Gl
namespace Gl
open PySem PySem.Spec PyProof.Rows L2
/-! ## lists made in a def, lent to a maker, and changed behind it -/
open Classical in
/-- what the maker left, without the lists that were lent -/
noncomputable def cutL (F0 F1 F2 : Hp) : Hp := fun b => if F0 b = none ∧ ∃ us, F1 b = some (.lst us) then none else F2 b
section
variable {P : Addr → Prop} {F0 H0 F1 H1 F2 H2 F H C : Hp} {K : PySem.W.Frag} {α : Type} {A : R α}
theorem cutL_le : Same (cutL F0 F1 F2) F2 := fun a o e => by
  unfold cutL at e
  split at e
  · cases e
  · exact e
theorem cutL_no {a : Addr} (h : ¬ (F0 a = none ∧ ∃ us, F1 a = some (.lst us))) : cutL F0 F1 F2 a = F2 a := if_neg h
theorem cutL_at {a : Addr} {us : List V} (h : F0 a = none) (h1 : F1 a = some (.lst us)) : cutL F0 F1 F2 a = none := if_pos ⟨h, us, h1⟩
theorem cutL_new {a : Addr} (h : F1 a = none) : cutL F0 F1 F2 a = F2 a := cutL_no fun z => by
  obtain ⟨_, us, e⟩ := z
  rw [h] at e; cases e
theorem cutL_oth (le : Same F1 F2) {a : Addr} {o : HO} (h : F2 a = some o) (n : ∀ us, o ≠ .lst us) : cutL F0 F1 F2 a = some o := by
  rw [cutL_no fun z => ?_, h]
  obtain ⟨_, us, e⟩ := z
  have := le _ _ e
  rw [h] at this
  exact n us (Option.some.inj this)
theorem sqT_cut (le : Same F1 F2) {a : Addr} {xs : List V} (h : SqT K F2 a xs) : SqT K (cutL F0 F1 F2) a xs := by
  rcases h with (h | ⟨o, h⟩) | h
  · exact .inl (.inl (cutL_oth le h fun _ z => nomatch z))
  · exact .inl (.inr ⟨o, cutL_oth le h fun _ z => nomatch z⟩)
  · exact .inr h
theorem form_cut (le : Same F1 F2) {v : V} {a : List Str} (h : qForm.r K F2 v a) : qForm.r K (cutL F0 F1 F2) v a := by
  obtain ⟨p, dx, u, e, h1, q, vs, e2, h2, r⟩ := h
  exact ⟨p, dx, u, e, cutL_oth le h1 (fun _ z => nomatch z), q, vs, e2, sqT_cut le h2, Paired.mapP r fun _ _ z => z⟩
theorem pat_cut (le : Same F1 F2) : ∀ {v : V} {a : Pat}, qPat.r K F2 v a → qPat.r K (cutL F0 F1 F2) v a
  | _, .form _, h => form_cut le h
  | _, .both l r, h => by
    obtain ⟨p, dx, u, w, e, h1, h2, h3⟩ := h
    exact ⟨p, dx, u, w, e, cutL_oth le h1 (fun _ z => nomatch z), pat_cut (a := l) le h2, pat_cut (a := r) le h3⟩
  | _, .either l r, h => by
    obtain ⟨p, dx, u, w, e, h1, h2, h3⟩ := h
    exact ⟨p, dx, u, w, e, cutL_oth le h1 (fun _ z => nomatch z), pat_cut (a := l) le h2, pat_cut (a := r) le h3⟩
theorem LF_cut {B : R α} {v : V} {xs : List α} (h : (qLF F1 A).r K F2 v xs) (m : ∀ u x, A.r K F2 u x → B.r K (cutL F0 F1 F2) u x) : (qL B).r K (cutL F0 F1 F2) v xs := by
  obtain ⟨⟨p, us, e, h1, r⟩, q, e2, z⟩ := h
  rw [e] at e2; cases e2
  exact ⟨p, us, e, by rw [cutL_new z]; exact h1, Paired.mapP r fun _ _ z => m _ _ z⟩
end
end Gl
namespace Gl
open PySem PySem.Spec PyProof.Rows L2
/-! ## o.m(k1 = v1, k2 = v2, ..), the method's last parameter takes all keywords -/
abbrev KwE : Type := Str × Tok × Value
def kwRow (w : World) (e : KwE) : DictEntry := ⟨keyH w (.inr e.1), .str e.1 e.2.1, e.2.2⟩
def kwO (w : World) (es : List KwE) : Obj := { cls := .type "dict", data := .dict (es.map (kwRow w)).toArray es.length }
section
variable {prog : Program} {w : World} {A : Around} {E : Value → Shared → Prop}
theorem isStr_row {w : World} {e : KwE} {k : Str} : (kwRow w e).key.isStr k = decide (e.1 = k) := by
  show (e.1 == k) = decide (e.1 = k)
  by_cases h : e.1 = k
  · rw [decide_eq_true h, h]; exact beq_self_eq_true k
  · rw [decide_eq_false h]; exact beq_eq_false_iff_ne.mpr h
theorem nsSet_kw {h : Heap} {g : Array GenState} {dn : Drawn} {tk : Nat} {os : OsState} {k : Str} {v : Value} {es : List KwE} {Q : Unit → Shared → Prop} (hk : ∀ e ∈ es, e.1 ≠ k) (hQ : Q () ⟨h.push (kwO w (es ++ [(k, tk, v)])), g, dn, tk + 1, os⟩) :
    wpAny (model prog w) A (nsSet h.objs.size k v) Q E ⟨h.push (kwO w es), g, dn, tk, os⟩ := by
  unfold nsSet strHash
  refine wpAny_bind (wpAny_bind (wpAny_askSetting (wpAny_pure ?_)))
  refine wpAny_bind (wpAny_mkText (wpAny_bind (wpAny_loadPart (Heap.get?_push_size _ rfl) ?_)))
  have no : ∀ e ∈ (es.map (kwRow w)).toArray, e.key.isStr k = false := fun e he => by
    obtain ⟨a, ha, rfl⟩ := List.mem_map.mp (List.mem_toArray.mp he)
    rw [isStr_row, decide_eq_false (hk a ha)]
  have nr : ((es.map (kwRow w)).toArray).any (·.refKey) = false := by
    rw [Array.any_eq_false]
    intro i hi
    rw [List.getElem_toArray, List.getElem_map]
    unfold kwRow DictEntry.refKey
    simp
  have d0 : (kwO w es).data = .dict (es.map (kwRow w)).toArray es.length := rfl
  rw [d0]
  dsimp only
  rw [if_neg (by rw [aRefKeyMayBeTheName_at, nr]; simp)]
  refine wpAny_updatePart (Heap.get?_push_size _ rfl) ?_
  rw [push_upd]
  have e1 : Obj.putName k (keyH w (.inr k)) (.str k tk) v (kwO w es) = kwO w (es ++ [(k, tk, v)]) := by
    rw [Obj.putName_eq]
    unfold kwO Obj.putNameByArray
    dsimp only
    rw [Array.findIdx?_eq_none_iff.mpr no]
    dsimp only
    rw [List.map_append, List.length_append]
    simp [kwRow]
  have e2 : Obj.putName k (keyH w (.inr k)) (.str k tk) v (kwO w es) = _ := e1
  show Q () ⟨h.push (Obj.putName k _ _ v (kwO w es)), g, dn, tk + 1, os⟩
  exact e2 ▸ hQ
theorem kwO_of {h : Heap} {es : List KwE} (hn : (es.map (·.1)).Nodup) : (h.push (kwO w es)).DictOf (mixKind prog w) h.objs.size (es.map fun e => (.inr e.1, e.2.2)) := by
  refine ⟨_, _, _, Heap.get?_push_size _ rfl, ⟨rfl, rfl, rfl⟩, rfl, fun e he => ?_, ?_, ?_⟩
  · obtain ⟨a, ha, rfl⟩ := List.mem_map.mp (show e ∈ es.map (kwRow w) by simpa using he)
    exact ⟨.inr a.1, by show keyIs (.inr a.1) (.str a.1 a.2.1) = true; simp [keyIs, Value.isStrOf], rfl⟩
  · have go : ∀ l : List KwE, Pairs (mixKind prog w) (l.map (kwRow w)) (l.map fun e => ((.inr e.1 : Key), e.2.2)) := by
      intro l
      induction l with
      | nil => exact .nil
      | cons a l ih => exact .cons (by show keyIs (.inr a.1) (.str a.1 a.2.1) = true; simp [keyIs, Value.isStrOf]) rfl ih
    have e : ((es.map (kwRow w)).toArray).toList = es.map (kwRow w) := rfl
    rw [e]
    exact go es
  · rw [List.map_map]
    have : (es.map ((fun x : Key × Value => x.1) ∘ fun e : KwE => ((.inr e.1 : Key), e.2.2))) = (es.map (·.1)).map (Sum.inr : Str → Key) := by rw [List.map_map]; rfl
    rw [this]
    exact List.Pairwise.map _ (fun a b hab e => hab (Sum.inr.inj e)) hn
theorem kw_loop {h : Heap} {g : Array GenState} {dn : Drawn} {os : OsState} {Q : PUnit → Shared → Prop} : ∀ (rest : List (Str × Value)) (es : List KwE) (tk : Nat), (es.map (·.1) ++ rest.map (·.1)).Nodup →
    (∀ es' tk', es'.map (·.1) = es.map (·.1) ++ rest.map (·.1) → es'.map (·.2.2) = es.map (·.2.2) ++ rest.map (·.2) → Q PUnit.unit ⟨h.push (kwO w es'), g, dn, tk', os⟩) →
    wpAny (model prog w) A (forIn rest PUnit.unit (fun (kv : Str × Value) _ => nsSet h.objs.size kv.1 kv.2 >>= fun _ => pure (ForInStep.yield PUnit.unit))) Q E ⟨h.push (kwO w es), g, dn, tk, os⟩
  | [], es, tk, _, k => by
    rw [List.forIn_nil]
    exact wpAny_pure (k es tk (by simp) (by simp))
  | (a, v) :: rest, es, tk, hn, k => by
    rw [List.forIn_cons]
    have na : ∀ e ∈ es, e.1 ≠ a := fun e he => (List.nodup_append.mp hn).2.2 e.1 (List.mem_map_of_mem he) a List.mem_cons_self
    refine wpAny_bind (wpAny_bind (nsSet_kw na (wpAny_pure ?_)))
    dsimp only
    refine kw_loop rest (es ++ [(a, tk, v)]) (tk + 1) (by rw [List.map_append]; simpa using hn) fun es' tk' h1 h2 => k es' tk' ?_ ?_
    · rw [h1, List.map_append]; simp
    · rw [h2, List.map_append]; simp
end
abbrev SpN : Type := V → List V → Hp → VK → XK → Prop
def FnKwN (P : Program) (w : World) (K : PySem.W.Frag) (mg : Str → Option Value) (base : Heap) (CX : CXT) (k : Nat) (f : Addr) (ks : List Str) (sp : SpN) : Prop :=
  ∀ (A : Around) (outer : List Env) (s : Shared) (H : Hp) (u : Value) (xs : List Value) (v : V) (zs : List V) (Q : VK) (E : XK), Room k A → Env0 P w K mg base A outer s H → RelV v u → Vals zs xs → xs.length = ks.length → sp v zs H Q E →
    codeAny (model P w) A (.call (.ref f) ⟨[u], ks.zip xs⟩) (CR CX outer P w H s Q E) s
def kwRowV (ks : List Str) (zs : List V) : List (Key × V) := (ks.map (Sum.inr : Str → Key)).zip zs
/-- what its body does with self and the dict of the keywords -/
def kwSpN (ks : List Str) (sp : Sp) : SpN := fun v zs H Q E => ∀ p, H p = none → sp [v, .ref p] (upd H p (.dK (kwRowV ks zs))) Q E
/-- how such a def binds -/
def BindN (ks : List Str) (pv p1 : Str) (u : Value) (xs : List Value) (b : Sem (List (Str × Value))) : Prop := b = (alloc { cls := .type "dict", data := .dict #[] } >>= fun d => (forIn (ks.zip xs) PUnit.unit (fun (kv : Str × Value) _ => nsSet d kv.1 kv.2 >>= fun _ => pure (ForInStep.yield PUnit.unit))) >>= fun _ => pure [(p1, u), (pv, .ref d)])
theorem kv_zip {ks : List Str} : ∀ {zs : List V} {xs : List Value} {es : List KwE}, Vals zs xs → xs.length = ks.length → es.map (·.1) = ks → es.map (·.2.2) = xs → KV (kwRowV ks zs) (es.map fun e => ((.inr e.1 : Key), e.2.2)) := by
  induction ks with
  | nil =>
    intro zs xs es h l e1 e2
    cases es with
    | nil => exact .nil
    | cons a es => cases e1
  | cons k ks ih =>
    intro zs xs es h l e1 e2
    cases es with
    | nil => cases e1
    | cons a es =>
      cases h with
      | nil => cases l
      | @cons v x vs xs r t =>
        rw [List.map_cons] at e1 e2
        injection e1 with e1 e1'
        injection e2 with e2 e2'
        subst e1 e2
        exact .cons ⟨rfl, r⟩ (ih t (Nat.succ.inj l) e1' e2')
section
variable {CX : CXT} {P : Program} {w : World} {K : PySem.W.Frag} {mg : Str → Option Value} {base : Heap} {k : Nat} {f : Addr} {name qual : Str} {params : Arguments} {body : List Stmt} {scope : Scope} {dV kV doc pm cdv ct oc : Value} {an od : Option Addr}
  {osl : Array (Option Value)} {N : List Str} {sp : Sp}
theorem fn_kwN {p1 pv : Str} {ks : List Str} (lk : K.lookup f = some ⟨oc, od, .func (PySem.W.fnOf name qual params body scope dV kV doc pm an cdv ct), osl⟩) (hcd : PySem.W.codeIn K cdv qual = true) (S : FnScope N [p1, pv] scope) (hCX : StX.CXUp CX) (hks : ks.Nodup) (hl : ks.length ≤ 100)
    (hb : ∀ (u : Value) (xs : List Value), xs.length = ks.length → BindN ks pv p1 u xs (bindArgs (PySem.W.fnOf name qual params body scope dV kV doc pm an cdv ct) ⟨[u], ks.zip xs⟩))
    (hbody : ∀ (A : Around) (outer : List Env) (s : Shared) (H : Hp) (vs : List V) (Q : VK) (E : XK), Room k (A.deeper (envOfC qual scope s.heap.objs.size f cdv)) → sp vs H Q E →
      ∃ t, PSs (cxOf CX P w K mg base N qual scope f cdv A outer s H E) body t ∧ t { nx := fun _ H' => Q .non H', rt := Q } (start N vs) H) :
    FnKwN P w K mg base CX (k + 1) f ks (kwSpN ks sp) := by
  intro A outer s H u xs v zs Q E hr e0 ru rx lx hq
  have hn : H s.heap.objs.size = Option.none := e0.hok.fresh (Nat.le_refl _)
  refine StX.run_bnd lk hcd S hr e0 (G := fun ys H2 => ∃ p, H p = Option.none ∧ ys = [v, V.ref p] ∧ H2 = upd H p (.dK (kwRowV ks zs))) (fun A' Ex Q' h => ?_) fun s2 H2 ys ⟨p, hp, ex, eH⟩ hr' => ?_
  · rw [hb u xs lx]
    have fz : (ks.zip xs).map (·.1) = ks := List.map_fst_zip (by omega)
    have sz : (ks.zip xs).map (·.2) = xs := List.map_snd_zip (by omega)
    refine wpAny_bind (wpAny_alloc (wpAny_bind ?_))
    refine kw_loop (w := w) (ks.zip xs) [] s.toks (by rw [fz]; simpa using hks) fun es tk' h1 h2 => ?_
    rw [List.map_nil, List.nil_append, fz] at h1
    rw [List.map_nil, List.nil_append, sz] at h2
    refine wpAny_pure ?_
    have rel := kv_zip rx lx h1 h2
    have nd : (es.map (·.1)).Nodup := by rw [h1]; exact hks
    have ll : (kwRowV ks zs).length ≤ 100 := by unfold kwRowV; rw [List.length_zip, List.length_map]; omega
    have new : ObjOk P w (upd H s.heap.objs.size (.dK (kwRowV ks zs))) (s.heap.push (kwO w es)) s.heap.objs.size (.dK (kwRowV ks zs)) :=
      ⟨Nat.le_trans ll (by rw [sizeLine_eq]; decide), beq_eq_false_iff_ne.mpr (Ne.symm (Nat.ne_of_lt (StX.env0_big e0))), _, rel, kwO_of (prog := P) nd⟩
    have un := StX.un_laid (fs := frs outer) (s := s) (o := kwO w es) (u := .dK (kwRowV ks zs)) hn
    have e1 : Env0 P w K mg base A outer ⟨s.heap.push (kwO w es), s.gens, s.drawn, tk', s.os⟩ (upd H s.heap.objs.size (.dK (kwRowV ks zs))) := by
      obtain ⟨a1, a2, a3, a4, a5, a6, a7, a8⟩ := StX.env0_laid e0 new
      exact ⟨a1, a2, a3, a4, a5, a6, a7, a8⟩
    exact h ⟨s.heap.push (kwO w es), s.gens, s.drawn, tk', s.os⟩ _ [v, V.ref s.heap.objs.size] [u, Value.ref s.heap.objs.size] e1 un rfl (fun e s' => hCX outer s H _ _ E e s' un (fun b o q => Heap.get?_push_of_some _ q) rfl) (.cons ru (.cons rfl .nil)) rfl ⟨_, hn, rfl, rfl⟩
  · subst ex eH
    exact hbody A outer s2 _ _ Q E hr' (hq p hp)
end
theorem FnKwN.mono {CX : CXT} {P : Program} {w : World} {K : PySem.W.Frag} {mg : Str → Option Value} {base : Heap} {k : Nat} {f : Addr} {ks : List Str} {sp sp' : SpN} (F : FnKwN P w K mg base CX k f ks sp) (h : ∀ v zs H Q E, sp' v zs H Q E → sp v zs H Q E) : FnKwN P w K mg base CX k f ks sp' := fun A outer s H u xs v zs Q E hr e ru rx l q => F A outer s H u xs v zs Q E hr e ru rx l (h _ _ _ _ _ q)
abbrev spN (sp : Sp) : SpN := fun v zs H Q E => sp (v :: zs) H Q E
def tMethN (C : Addr) (m : Str) (n : Nat) (sp : Sp) (E : XK) (ta : TE) (tk : TA) : TE := fun σ H Q => ta σ H (mtK C m fun x H1 => tk σ H1 fun ys H2 => ys.length = n ∧ sp (x :: ys) H2 Q E)
theorem rd_methN {C : Addr} {m : Str} {n : Nat} {sp : Sp} {E : XK} {ta : TE} {tk : TA} {σ : L2.St} {H : Hp} {Q : VK} (k : ta σ H (mtK C m fun x H1 => tk σ H1 fun ys H2 => ys.length = n ∧ sp (x :: ys) H2 Q E)) : tMethN C m n sp E ta tk σ H Q := k
section
variable {X : Cx} {CX : CXT} {k : Nat} {f C : Addr} {E : XK} {m : Str} {p pos apos : Pos} {o : Expr} {ta te : TE} {tk : TA}
theorem run_kwN {ks : List Str} {sp : SpN} {pins : List (Addr × Obj)} {σ : L2.St} {H : Hp} {s : Shared} {Q : VK} {u : Value} {xs : List Value} {v : V} {zs : List V} (F : FnKwN X.prog X.w X.K X.mg X.base CX k f ks sp) (hr : Room k X.A) (hx : Passes CX X E) (I : Inv X pins σ H s) (ru : RelV v u) (rx : Vals zs xs) (lx : xs.length = ks.length) (h : sp v zs H Q E) :
    wpAny (model X.prog X.w) X.A (call (.ref f) [u] (ks.zip xs)) (EP X pins σ Q) X.xe s := by
  refine wpAny_call (codeAny_mono (F X.A X.stack s H u xs v zs Q E hr I.env0 ru rx lx h) fun r s' hq => ?_)
  cases r with
  | error e => exact hx pins σ H s e s' I hq
  | ok fl =>
    cases fl with
    | ret u => exact I.after hq
    | next => exact False.elim hq
    | brk => exact False.elim hq
    | cont => exact False.elim hq
/-- o.m(k1 = e1, ..) -/
theorem pe_methN {ks : List Str} {kws : List Keyword} {sp : Sp} {pl : Sem Bool} (he : PE X o ta) (c : Cls X.K C) (hm : Meth X.K C m f) (F : FnKwN X.prog X.w X.K X.mg X.base CX k f ks (spN sp)) (hr : Room k X.A) (hx : Passes CX X E) (ha : PK X kws tk)
    (hks : (backToKw pos (keywordEach kws X.env)).filterMap (·.1) = ks := by rfl)
    (hall : (backToKw pos (keywordEach kws X.env)).all (·.1.isSome) = true := by rfl)
    (hpl : ((backTo pos (starEach [] X.env)).any (·.1) || (backToKw pos (keywordEach kws X.env)).any (·.1.isNone)) = false := by rfl)
    (ht : eval (.Call (.Attribute o m apos) [] kws pos) X.env = (do
      let ov ← eval o X.env
      standAt apos.atName
      let (f, first) ← holding [ov] (getMethod ov m pl)
      callWith pos f first (backTo pos (starEach [] X.env)) (backToKw pos (keywordEach kws X.env))) := by rfl) :
    PE X (.Call (.Attribute o m apos) [] kws pos) (tMethN C m ks.length sp E ta tk) := by
  refine ⟨fun pins s σ H Q I h => ?_⟩
  refine PySem.W.methodCall_KW (pl := pl) (thn (he.run pins s σ H _ I h) fun u s1 ⟨x, H1, I1, rx, a, dx, fs, ex, ea, l, q⟩ => ?_) ht
  subst ex
  obtain rfl : u = Value.ref a := rx
  refine getmeth_ok I1 ea c hm l ?_
  refine PySem.W.callWith_KW0 (first := [.ref a]) (h₀ := X.base) I.ok.mod.kin hm.kp hall ?_ hpl
  refine thn (ha.run pos pins s1 σ H1 (fun ys H2 => ys.length = ks.length ∧ sp (V.ref a :: ys) H2 Q E) I1 q) fun ws s2 ⟨zs, H2, I2, rz, q1, q2⟩ => ⟨I2.kIn, ?_⟩
  rw [hks]
  exact run_kwN (v := V.ref a) F hr hx I2 rfl rz (by rw [← rz.length]; exact q1) q2
end
/-! ## o.f = v, f a property with a setter -/
/-- the class has the name as a property at p whose setter is the def at g -/
structure PropSet (K : PySem.W.Frag) (C : Addr) (f : Str) (p g : Addr) : Prop where
  tak : PySem.W.takerIn K C f = some (some (.ref p))
  typ : PySem.W.typeIn K (.ref p) = some (.type "property")
  rec_ : ∃ a rest, PySem.W.recIn K p "property" = some (a :: .ref g :: rest)
  over : PySem.W.plainOver K C = true
  set_ : PySem.W.findIn K (.ref C) "__setattr__" = some (some (.builtin "object.__setattr__"))
section
variable {X : Cx} {CX : CXT} {k : Nat} {C p g a dx : Addr} {fs : List (Str × V)} {f : Str} {fd : FuncData} {ps : List Str} {sp : Sp} {E : XK} {e value : Expr} {pos pos' : Pos} {ta tv : TE}
theorem setprop_ok {pins : List (Addr × Obj)} {σ : L2.St} {H : Hp} {s : Shared} {R : Unit → Shared → Prop} {y : V} {u : Value} (I : Inv X pins σ H s) (ea : H a = some (.ins C dx fs)) (hp : PropSet X.K C f p g)
    (F : FnOk X.prog X.w X.K X.mg X.base CX k g fd ps sp) (hr : Room (k + 2) X.A) (hb : Binds X.K fd ps []) (hx : Passes CX X E) (ry : RelV y u) {Q : Hp → Prop} (h : sp [.ref a, y] H (fun _ H' => Q H') E)
    (hQ : ∀ H' s', Inv X pins σ H' s' → Q H' → R () s') : wpAny (model X.prog X.w) X.A (setAttr (.ref a) f u) R X.xe s := by
  obtain ⟨mA, O, _, _, _, _⟩ := ins_get I.hok ea
  obtain ⟨od, J, _⟩ := O.look
  obtain ⟨b, rest, hrec⟩ := hp.rec_
  have I1 := I.tok (s.toks + 1)
  have hl : ([Value.ref a, u] ++ []).length = ps.length := by
    rw [← F.len _ _ _ _ h]; rfl
  refine PySem.W.set_plain I.kIn J hp.set_ ?_
  refine PySem.W.osa_descr (s := { s with toks := s.toks + 1 }) PySem.W.KF.slot_pset I.kIn J hp.over hp.tak hp.typ ?_
  refine PySem.W.prop_set (s := { s with toks := s.toks + 1 }) I.kIn hrec ?_
  refine codeAny_mono (F.run X.A.in1.in1 X.stack { s with toks := s.toks + 1 } H ⟨[.ref a, u], []⟩ [.ref a, u] [.ref a, y] _ E (hr.mono (by omega)).in1.in1 I1.env0.in1.in1 (hb _ [.ref a, u] I1.kIn hl) (.cons rfl (.cons ry .nil)) h) fun r s' hq => ?_
  cases r with
  | error er => exact hx pins σ H { s with toks := s.toks + 1 } er s' I1 hq
  | ok fl =>
    cases fl with
    | ret v =>
      obtain ⟨_, H', I3, _, q3⟩ := I1.after hq
      exact hQ H' s' I3 q3
    | next => exact False.elim hq
    | brk => exact False.elim hq
    | cont => exact False.elim hq
def sSetP (C : Addr) (sp : Sp) (E : XK) (ta tv : TE) : TS := fun D σ H => tv σ H fun y H1 => ta σ H1 fun x H2 => ∃ a dx fs, x = .ref a ∧ H2 a = some (.ins C dx fs) ∧ sp [.ref a, y] H2 (fun _ H' => D.nx σ H') E
theorem ps_setprop (ha : PE X e ta) (hv : PE X value tv) (hp : PropSet X.K C f p g) (F : FnOk X.prog X.w X.K X.mg X.base CX k g fd ps sp) (hr : Room (k + 2) X.A) (hb : Binds X.K fd ps []) (hx : Passes CX X E)
    (hs : swapsWith value (some (.Attribute e f pos')) pos.line X.env = pure false) : PS X (.Assign [.Attribute e f pos'] value pos) (sSetP C sp E ta tv) := by
  refine ⟨fun pins s σ H D I h => ?_⟩
  refine plainObj_wpAny_Assign_Attribute (thn (hv.run pins s σ H _ I h) fun u s1 ⟨y, H1, I1, ry, q⟩ => thn (ha.run pins s1 σ H1 _ I1 q) fun ov s2 ⟨x, H2, I2, rx, a, dx, fs, ex, ea, q2⟩ => ?_) hs
  subst ex
  obtain rfl : ov = Value.ref a := rx
  exact setprop_ok I2 ea hp F hr hb hx ry q2 fun H' s3 I3 q3 => ⟨σ, H', I3, q3⟩
theorem rd_setP {sp : Sp} {σ : L2.St} {H : Hp} {D : Ends} (k : tv σ H fun y H1 => ta σ H1 fun x H2 => ∃ a dx fs, x = .ref a ∧ H2 a = some (.ins C dx fs) ∧ sp [.ref a, y] H2 (fun _ H' => D.nx σ H') E) : sSetP C sp E ta tv D σ H := k
end
/-! ## the same two, and a maker with keywords, in a try -/
def tMakeKS (C : Addr) (n m : Nat) (sp : Sp) (gV : List V → List V → List V) (E : L2.St → XK) (t tk : TA) : TE := fun σ H Q => t σ H fun vs H1 => tk σ H1 fun zs H2 => mkKk C n m sp gV (E σ) Q vs zs H2
def tMethNS (C : Addr) (m : Str) (n : Nat) (sp : Sp) (E : L2.St → XK) (ta : TE) (tk : TA) : TE := fun σ H Q => ta σ H (mtK C m fun x H1 => tk σ H1 fun ys H2 => ys.length = n ∧ sp (x :: ys) H2 Q (E σ))
section
variable {X : Cx} {CXt : CXT} {k n : Nat} {f C : Addr} {fd : FuncData} {ps ks : List Str} {sp : Sp} {E : L2.St → XK} {x m : Str} {p pos apos : Pos} {e o : Expr} {es : List Expr} {kws : List Keyword} {ta : TE} {t tk : TA} {g : List Value → List Value → List Value} {gV : List V → List V → List V} {H : Hp} {σ : L2.St} {Q : VK}
theorem rd_makeKS (q : t σ H fun vs H1 => tk σ H1 fun zs H2 => mkKk C n k sp gV (E σ) Q vs zs H2) : tMakeKS C n k sp gV E t tk σ H Q := q
theorem rd_methNS (q : ta σ H (mtK C m fun x H1 => tk σ H1 fun ys H2 => ys.length = n ∧ sp (x :: ys) H2 Q (E σ))) : tMethNS C m n sp E ta tk σ H Q := q
theorem pe_makeKS (M : Mk X.K C f) (F : FnOk X.prog X.w X.K X.mg X.base CXt k f fd ps sp) (hr : Room (k + 1) X.A) (hg : Gl X x) (hm : X.mg x = some (.ref C)) (hb : KBn X.K fd ps (n + 1) ks g gV) (hx : ∀ σ, PassesAt CXt X σ (E σ)) (ha : PA X (e :: es) t) (hkw : PK X kws tk)
    (hall : (backToKw pos (keywordEach kws X.env)).all (·.1.isSome) = true := by rfl) (hks : (backToKw pos (keywordEach kws X.env)).filterMap (·.1) = ks := by rfl) (hdb : (x == ("__debug__" : Str)) = false := by decide)
    (he : starEach (e :: es) X.env = (false, eval e X.env) :: starEach es X.env := by rfl) (hpl : ((backTo pos (starEach (e :: es) X.env)).any (·.1) || (backToKw pos (keywordEach kws X.env)).any (·.1.isNone)) = false := by rfl) :
    PE X (.Call (.Name x p) (e :: es) kws pos) (tMakeKS C n ks.length sp gV E t tk) := by
  refine ⟨fun pins s σ H Q I h => wpAny_Call_Name_kw (ld_glob I hg hm ?_ hdb)⟩
  refine PySem.W.callWith_KW (h₀ := X.base) I.ok.mod.kin M.kp hall (thn (ha.run pos pins s σ H _ I h) fun us s1 hh => ?_) hpl he
  obtain ⟨vs, H1, I1, r, q⟩ := hh
  refine thn (hkw.run pos pins s1 σ H1 _ I1 q) fun ws s2 hh2 => ?_
  obtain ⟨zs, H2, I2, rz, l1, l2, q2⟩ := hh2
  refine ⟨I2.kIn, ?_⟩
  rw [hks]
  have q3 := q2 (s2.heap.objs.size + 1) s2.heap.objs.size (I2.hok.fresh (Nat.le_succ _)) (I2.hok.fresh (Nat.le_refl _)) (Nat.ne_of_lt (Nat.lt_succ_self _))
  have I3 := Inv.made (C := C) I2
  have r1 : Vals (V.ref (s2.heap.objs.size + 1) :: vs) (Value.ref (s2.heap.objs.size + 1) :: us) := .cons rfl r
  have n1 : (Value.ref (s2.heap.objs.size + 1) :: us).length = n + 1 := by rw [← r1.length, List.length_cons, l1]
  have run := F.run (X.A.under (.builtin "type.__call__" ⟨.ref C :: us, ks.zip ws⟩)) X.stack _ _ ⟨Value.ref (s2.heap.objs.size + 1) :: us, ks.zip ws⟩ (g (Value.ref (s2.heap.objs.size + 1) :: us) ws) _ _ (E σ) (hr.make C us (ks.zip ws)) (I3.env0.make C us (ks.zip ws)) (hb.to _ _ ws I3.kIn n1 (rz.length.symm.trans l2)) (hb.rel r1 rz) q3
  refine wpAny_call (make_map (f := f) I2.kIn M.makes M.init (beq_iff_eq.mp M.fn) (codeAny_mono run ?_))
  intro rs s' h'
  rcases rs with e' | (u | _ | _ | _)
  · exact hx σ pins _ _ e' s' I3 h'
  all_goals first | exact False.elim h' | skip
  obtain ⟨v, H', I4, rv, ev, q4⟩ := I3.after h'
  subst ev
  exact ⟨rv, ⟨V.ref (s2.heap.objs.size + 1), H', I4, rfl, q4⟩⟩
theorem pe_methNS {pl : Sem Bool} (he : PE X o ta) (c : Cls X.K C) (hm : Meth X.K C m f) (F : FnKwN X.prog X.w X.K X.mg X.base CXt k f ks (spN sp)) (hr : Room k X.A) (hx : ∀ σ, PassesAt CXt X σ (E σ)) (ha : PK X kws tk)
    (hks : (backToKw pos (keywordEach kws X.env)).filterMap (·.1) = ks := by rfl)
    (hall : (backToKw pos (keywordEach kws X.env)).all (·.1.isSome) = true := by rfl)
    (hpl : ((backTo pos (starEach [] X.env)).any (·.1) || (backToKw pos (keywordEach kws X.env)).any (·.1.isNone)) = false := by rfl)
    (ht : eval (.Call (.Attribute o m apos) [] kws pos) X.env = (do
      let ov ← eval o X.env
      standAt apos.atName
      let (f, first) ← holding [ov] (getMethod ov m pl)
      callWith pos f first (backTo pos (starEach [] X.env)) (backToKw pos (keywordEach kws X.env))) := by rfl) :
    PE X (.Call (.Attribute o m apos) [] kws pos) (tMethNS C m ks.length sp E ta tk) := by
  refine ⟨fun pins s σ H Q I h => ?_⟩
  refine PySem.W.methodCall_KW (pl := pl) (thn (he.run pins s σ H _ I h) fun u s1 ⟨x, H1, I1, rx, a, dx, fs, ex, ea, l, q⟩ => ?_) ht
  subst ex
  obtain rfl : u = Value.ref a := rx
  refine getmeth_ok I1 ea c hm l (PySem.W.callWith_KW0 (first := [.ref a]) (h₀ := X.base) I.ok.mod.kin hm.kp hall ?_ hpl)
  refine thn (ha.run pos pins s1 σ H1 (fun ys H2 => ys.length = ks.length ∧ sp (V.ref a :: ys) H2 Q (E σ)) I1 q) fun ws s2 ⟨zs, H2, I2, rz, q1, q2⟩ => ⟨I2.kIn, ?_⟩
  rw [hks]
  refine wpAny_call (codeAny_mono (F X.A X.stack s2 H2 (.ref a) ws (V.ref a) zs Q (E σ) hr I2.env0 rfl rz (by rw [← rz.length]; exact q1) q2) fun r s' hq => ?_)
  rcases r with e' | (u | _ | _ | _)
  · exact hx σ pins _ _ e' s' I2 hq
  all_goals first | exact False.elim hq | exact I2.after hq
end
/-! ## for k in d, d the own dict of the keywords -/
section
variable {K : PySem.W.Frag} {P : Addr → Prop} {F0 H0 F H : Hp} {p : Addr} {D : Ends} {σ : L2.St} {td : TE} {g : TG} {tb : TS}
theorem rd_kwForN {ks : List Str} {zs : List V} {ok : Str → Prop} (hp : H p = some (.dK (kwRowV ks zs))) (hl : zs.length = ks.length) (hv : ∀ (H1 : Hp) (Q : VK), Q (.ref p) H1 → td σ H1 Q) (St : L2.St → Prop) (hσ : St σ)
    (body : ∀ od k σ1 N R B C, k ∈ ks → St σ1 → (ok k → ∀ σ', St σ' → N σ' (upd H p (.frz od (.dK (kwRowV ks zs))))) → g (.str k) σ1 (upd H p (.frz od (.dK (kwRowV ks zs)))) fun σ2 H2 => tb ⟨N, R, B, C⟩ σ2 H2)
    (done : ∀ σ', St σ' → (∀ k ∈ ks, ok k) → D.nx σ' H) : tLock (tFor (iKeys td) g tb) D σ H := by
  refine ⟨p, _, hp, True.intro, fun od => ?_⟩
  refine hv _ _ ⟨p, od, rfl, .inl ⟨_, upd_same, ?_⟩⟩
  have ln : (kwRowV ks zs).length = ks.length := by unfold kwRowV; rw [List.length_zip, List.length_map]; omega
  have keyAt : ∀ (i : Nat) (x : Str), ks[i]? = some x → ∃ v, (kwRowV ks zs)[i]? = some (.inr x, v) := fun i x e => by
    have hi : i < ks.length := (List.getElem?_eq_some_iff.mp e).1
    refine ⟨zs[i]'(by omega), ?_⟩
    unfold kwRowV
    rw [List.getElem?_zip_eq_some]
    exact ⟨by rw [List.getElem?_map, e]; rfl, List.getElem?_eq_getElem (by omega)⟩
  have back : upd (upd H p (.frz od (.dK (kwRowV ks zs)))) p (.dK (kwRowV ks zs)) = H := by
    funext b
    by_cases e : b = p
    · rw [e, upd_same, hp]
    · rw [upd_ne e, upd_ne e]
  refine ⟨fun i m σ' H' => m = ks.length - i ∧ i ≤ ks.length ∧ St σ' ∧ H' = upd H p (.frz od (.dK (kwRowV ks zs))) ∧ ∀ k ∈ ks.take i, ok k, ⟨ks.length, by simp, Nat.zero_le _, hσ, rfl, fun k h => by cases h⟩, fun i m σ' H' h => ?_⟩
  obtain ⟨rfl, hi, hs, rfl, hk⟩ := h
  by_cases hlt : i < ks.length
  · have hx : ks[i]? = some ks[i] := List.getElem?_eq_getElem hlt
    obtain ⟨v, hv2⟩ := keyAt i _ hx
    refine .inr ⟨⟨upd_same, by rw [ln]; exact hlt⟩, fun σ1 H1 => St σ1 ∧ H1 = upd H p (.frz od (.dK (kwRowV ks zs))) ∧ ok ks[i], fun σ1 H1 q => ⟨ks.length - (i + 1), by omega, rfl, hlt, q.1, q.2.1, fun k hm => ?_⟩, fun x H1 y => ?_⟩
    · rw [List.take_add_one, hx] at hm
      rcases List.mem_append.mp hm with h | h
      · exact hk k h
      · have : k = ks[i] := by simpa using h
        rw [this]; exact q.2.2
    · obtain ⟨rfl, k', v', e, rfl⟩ := y
      rw [hv2] at e
      cases e
      exact body od ks[i] σ' _ _ _ _ (List.getElem_mem hlt) hs fun o σ1 h1 => ⟨h1, rfl, o⟩
  · have : i = ks.length := by omega
    subst this
    refine .inl ⟨⟨upd_same, by rw [ln]; exact Nat.le_refl _⟩, upd_same, ?_⟩
    rw [back]
    exact done σ' hs fun k hm => hk k (by rw [List.take_length]; exact hm)
end
/-! ## things compared -/
def thEq (a b : Th) : Option Bool := match a, b with
  | .d x, .d y => gd (SeqAt.shaped x) <| gd (SeqAt.shaped y) <| some (PyData.eqv x y)
  | _, _ => none
theorem rd_eqTh {K : PySem.W.Frag} {P : Addr → Prop} {F0 H0 F H : Hp} {v w : V} {a b : Th} {t : Bool} {Q : VK} (S : Sx P F0 H0 F H) (r : qTh.r K F v a) (r2 : qTh.r K F w b) (h : thEq a b = some t) (k : Q (.bl t) H) : rEqD K v w H Q := by
  cases a with
  | dct => cases h
  | d x =>
    cases b with
    | dct => cases h
    | d y =>
      obtain ⟨h1, h⟩ := gd_some h
      obtain ⟨h2, h⟩ := gd_some h
      cases h
      exact ⟨x, y, Dp.mono S.sub r, Dp.mono S.sub r2, h1, h2, k⟩
/-! ## what such a body has -/
def kwBN (ks : List Str) (sp : Sp) : Sp := fun vs H' Q E => ∃ p v zs H, vs = [v, .ref p] ∧ H p = none ∧ H' = upd H p (.dK (kwRowV ks zs)) ∧ sp (v :: zs) H Q E
theorem kwBN_of {ks : List Str} {sp : Sp} (v : V) (zs : List V) (H : Hp) (Q : VK) (E : XK) (q : spN sp v zs H Q E) : kwSpN ks (kwBN ks sp) v zs H Q E := fun p hp => ⟨p, v, zs, H, rfl, hp, rfl, q⟩
theorem sdrow_zip {K : PySem.W.Frag} {F : Hp} : ∀ {ks : List Str} {zs : List V} {ts : List Th}, Row qTh K F zs ts → SdRow K F (kwRowV ks zs) (ks.zip ts)
  | [], _, _, _ => .nil
  | _ :: _, _, _, .nil => .nil
  | k :: ks, _, _, .cons r t => .cons ⟨rfl, r⟩ (sdrow_zip (ks := ks) t)
theorem Sx.wide {P : Addr → Prop} {F0 H0 F H : Hp} (S : Sx P0 F0 H0 F H) (l : ∀ a, P a → H a ≠ none) : Sx P F0 H0 F H := ⟨S.le, S.sub, fun a o e n => (S.new a o e n).elim .inl fun z => z.elim, fun a o e _ => S.same a o e fun z => z, l⟩
/-! ## a property's setter -/
def seA (K : PySem.W.Frag) (C f : Str) : Addr := match PySem.W.recIn K (prA K C f) "property" with
  | some (_ :: .ref g :: _) => g
  | _ => 0
def fnS (K : PySem.W.Frag) (C f : Str) : He.FnW := match K.lookup (seA K C f) with
  | some ⟨_, _, .func z, _⟩ => some (z.name, z.qualname, z.params, z.body, z.scope, z.globals, z.closure, z.builtins)
  | _ => none
def fdS (K : PySem.W.Frag) (C f : Str) : FuncData := match K.lookup (seA K C f) with
  | some ⟨_, _, .func z, _⟩ => z
  | _ => fdDefault
def psB (K : PySem.W.Frag) (C f q : Str) : Bool :=
  He.eqO (PySem.W.takerIn K (He.ga K C) f) (some (some (.ref (prA K C f)))) && (He.eqO (some (PySem.W.typeIn K (.ref (prA K C f)))) (some (some (.type "property"))) && (PySem.W.plainOver K (He.ga K C) &&
  (He.eqO (PySem.W.findIn K (.ref (He.ga K C)) "__setattr__") (some (some (.builtin "object.__setattr__"))) && ((match PySem.W.recIn K (prA K C f) "property" with
    | some (_ :: .ref g :: _) => decide (g = seA K C f)
    | _ => false) && (PySem.W.keepIn K (.ref (seA K C f)) && (match K.lookup (seA K C f) with
    | some ⟨_, _, .func z, _⟩ => PySem.W.codeIn K z.code q && (He.dflB K z.defaults [] && He.kwdB K z.kwdefaults [])
    | _ => false))))))
structure Ps (K : PySem.W.Frag) (C f q : Str) (st : Stmt) : Prop where
  p : PropSet K (He.ga K C) f (prA K C f) (seA K C f)
  F : FunD K f q (defArgs st) (defBody st) (defScope st) [] [] (seA K C f) (fdS K C f)
theorem ps_ok {K : PySem.W.Frag} {C f q : Str} {st : Stmt} (c : psB K C f q = true) (e : fnS K C f = some (f, q, defArgs st, FuncBody.stmts (defBody st), defScope st, mainGlobals, [], builtinsNs)) : Ps K C f q st := by
  unfold psB at c
  obtain ⟨c1, c⟩ := He.ba c
  obtain ⟨c2, c⟩ := He.ba c
  obtain ⟨c3, c⟩ := He.ba c
  obtain ⟨c7, c⟩ := He.ba c
  obtain ⟨c4, c⟩ := He.ba c
  obtain ⟨c5, c6⟩ := He.ba c
  refine ⟨⟨He.eqO_ok c1, Option.some.inj (He.eqO_ok c2), ?_, c3, He.eqO_ok c7⟩, ?_⟩
  · revert c4
    split
    · rename_i a g r hr
      intro c4
      exact ⟨a, r, by rw [hr, of_decide_eq_true c4]⟩
    · intro c4; cases c4
  · unfold fnS at e
    cases hl : K.lookup (seA K C f) with
    | none => rw [hl] at e; cases e
    | some o =>
      obtain ⟨oc, od, dt, osl⟩ := o
      rw [hl] at e c6
      cases dt with
      | func z =>
        have hz : fdS K C f = z := by unfold fdS; rw [hl]
        rw [hz]
        obtain ⟨n1, n2, n3, n4, n5, n6, n7, n8, n9, n10, n11, n12, n13, n14, n15⟩ := z
        have e2 : (some (n1, n2, n3, n4, n5, n6, n7, n15) : He.FnW) = some (f, q, defArgs st, FuncBody.stmts (defBody st), defScope st, mainGlobals, [], builtinsNs) := e
        simp only [Option.some.injEq, Prod.mk.injEq] at e2
        obtain ⟨g1, g2, g3, g4, g5, g6, g7, g8⟩ := e2
        subst g1 g2 g3 g4 g5 g6 g7 g8
        obtain ⟨d1, d2⟩ := He.ba (show (PySem.W.codeIn K n13 _ && (He.dflB K n8 [] && He.kwdB K n9 [])) = true from c6)
        obtain ⟨d3, d4⟩ := He.ba d2
        exact ⟨⟨oc, od, n8, n9, n10, n11, n12, n13, n14, osl, rfl, hl, d1, He.dflB_ok d3, He.kwdB_ok d4⟩, c5⟩
      | _ => cases e
theorem sp_at {C p dx : Addr} {fs : List (Str × V)} {H2 : Hp} {R : Addr → Prop} (h : H2 p = some (.ins C dx fs)) (k : R p) : ∃ a dx fs, V.ref p = .ref a ∧ H2 a = some (.ins C dx fs) ∧ R a := ⟨p, dx, fs, rfl, h, k⟩
/-! ## two own lists lent to a maker that keeps none of them -/
section
variable {P : Addr → Prop} {F0 H0 F1 F2 F H F' H' : Hp} {K : PySem.W.Frag} {p1 p2 : Addr} {us1 us2 : List V}
def frz2 (p1 p2 : Addr) (F H : Hp) : Hp := fun a => if a = p1 ∨ a = p2 then H a else F a
def hole2 (p1 p2 : Addr) : Hp := fun a => if a = p1 ∨ a = p2 then none else some (.lst [])
theorem frz2_le (n1 : F p1 = none) (n2 : F p2 = none) : Same F (frz2 p1 p2 F H) := fun a o e => by
  unfold frz2
  rw [if_neg]
  · exact e
  · rintro (rfl | rfl)
    · rw [n1] at e; cases e
    · rw [n2] at e; cases e
theorem frz2_sub (s : Same F H) : Same (frz2 p1 p2 F H) H := fun a o e => by
  unfold frz2 at e
  split at e
  · exact e
  · exact s _ _ e
theorem frz2_1 : frz2 p1 p2 F H p1 = H p1 := if_pos (.inl rfl)
theorem frz2_2 : frz2 p1 p2 F H p2 = H p2 := if_pos (.inr rfl)
theorem hole2_no {a : Addr} (h : hole2 p1 p2 a = none) : a = p1 ∨ a = p2 := by
  unfold hole2 at h
  split at h
  · assumption
  · cases h
theorem Sx.lent2 (n1 : F p1 = none) (n2 : F p2 = none) (h1 : H p1 = some (.lst us1)) (h2 : H p2 = some (.lst us2)) (c : Sx P0 (frz2 p1 p2 F H) H F' H') : Sx P0 F H (cutL (hole2 p1 p2) (frz2 p1 p2 F H) F') H' := by
  refine ⟨fun a o e => ?_, cutL_le.trans c.sub, fun a o e n => ?_, c.same, c.live⟩
  · rw [cutL_no fun z => ?_]
    · exact c.le _ _ (frz2_le n1 n2 _ _ e)
    · rcases hole2_no z.1 with rfl | rfl
      · rw [n1] at e; cases e
      · rw [n2] at e; cases e
  · refine c.new _ _ (cutL_le _ _ e) ?_
    by_cases z : a = p1 ∨ a = p2
    · exfalso
      have hz : hole2 p1 p2 a = none := if_pos z
      rcases z with rfl | rfl
      · rw [cutL_at hz (frz2_1.trans h1)] at e; cases e
      · rw [cutL_at hz (frz2_2.trans h2)] at e; cases e
    · unfold frz2
      rw [if_neg z]; exact n
theorem lent2_l (h : H p1 = some (.lst us1)) {α : Type} {A : R α} {xs : List α} (r : Row A K F us1 xs) (n1 : F p1 = none) (n2 : F p2 = none) : (qL A).r K (frz2 p1 p2 F H) (.ref p1) xs := ⟨p1, us1, rfl, frz2_1.trans h, Row.mono (frz2_le n1 n2) r⟩
theorem lent2_r (h : H p2 = some (.lst us2)) {α : Type} {A : R α} {xs : List α} (r : Row A K F us2 xs) (n1 : F p1 = none) (n2 : F p2 = none) : (qL A).r K (frz2 p1 p2 F H) (.ref p2) xs := ⟨p2, us2, rfl, frz2_2.trans h, Row.mono (frz2_le n1 n2) r⟩
/-- a thing with no list in it -/
def thNoL : Th → Bool
  | .d .none => true
  | .d (.bool _) => true
  | .d (.int _) => true
  | .d (.str _) => true
  | .d (.tuple []) => true
  | _ => false
theorem th_cut (le : Same F1 F2) {v : V} : ∀ {t : Th}, thNoL t = true → qTh.r K F2 v t → qTh.r K (cutL F0 F1 F2) v t
  | .d .none, _, h => by cases (show Dp K F2 v .none from h); exact Dp.non
  | .d (.bool b), _, h => by cases (show Dp K F2 v (.bool b) from h); exact Dp.bl _
  | .d (.int b), _, h => by cases (show Dp K F2 v (.int b) from h); exact Dp.int _
  | .d (.str b), _, h => by cases (show Dp K F2 v (.str b) from h); exact Dp.str _
  | .d (.tuple []), _, h => by
    cases (show Dp K F2 v (.tuple []) from h) with
    | tup h1 h2 => exact Dp.tup (sqT_cut le h1) (by cases h2; exact .nil)
theorem sd_cut (le : Same F1 F2) {v : V} {xs : List (Str × Th)} (ok : (xs.all fun e => thNoL e.2) = true) (h : qSd.r K F2 v xs) : qSd.r K (cutL F0 F1 F2) v xs := by
  obtain ⟨p, kvs, e, h1, h2⟩ := h
  refine ⟨p, kvs, e, cutL_oth le h1 (fun _ z => nomatch z), ?_⟩
  clear h1
  unfold SdRow at h2 ⊢
  induction h2 with
  | nil => exact .nil
  | cons r _ ih =>
    rw [List.all_cons] at ok
    obtain ⟨o1, o2⟩ := He.ba ok
    exact .cons ⟨r.1, th_cut le o1 r.2⟩ (ih o2)
end
end Gl
namespace Gl
open PySem PySem.Spec PyProof.Rows L2
/-! ## plain mathematics: results that are there -/
def Ok {α : Type} (x : Option α) (Q : α → Prop) : Prop := ∃ a, x = some a ∧ Q a
section
variable {α β S ρ : Type} {x y : Option α} {P Q : α → Prop} {f : α → Option β} {R : β → Prop} {a : α} {b : Bool}
theorem Ok.sm (h : Q a) : Ok (some a) Q := ⟨a, rfl, h⟩
theorem Ok.bd (h : Ok x P) (k : ∀ a, P a → Ok (f a) R) : Ok (x.bind f) R := by
  obtain ⟨a, rfl, p⟩ := h
  exact k a p
theorem Ok.bde (h : x = some a) (k : Ok (f a) R) : Ok (x.bind f) R := by
  rw [h]; exact k
theorem Ok.gd (h : b = true) (k : Ok x Q) : Ok (gd b x) Q := by rw [gd_true h]; exact k
theorem Ok.ite (h1 : b = true → Ok x Q) (h2 : b = false → Ok y Q) : Ok (if b = true then x else y) Q := by
  cases b with
  | true => exact h1 rfl
  | false => exact h2 rfl
theorem Ok.mono (h : Ok x P) (k : ∀ a, P a → Q a) : Ok x Q := let ⟨a, e, p⟩ := h; ⟨a, e, k a p⟩
theorem Ok.eq {a : α} (h : Ok x fun r => r = a) : x = some a := let ⟨b, e, p⟩ := h; p ▸ e
theorem Ok.of (h : x = some a) (k : Q a) : Ok x Q := ⟨a, h, k⟩
/-- a loop: what holds ahead of each item -/
theorem Ok.loop {f : α → S → Option S} {xs : List α} {s0 : S} (I : List α → S → Prop) (h0 : I [] s0) (hs : ∀ pre x post s, xs = pre ++ x :: post → I pre s → Ok (f x s) (I (pre ++ [x]))) : Ok (loopS f xs s0) (I xs) := by
  have key : ∀ (post pre : List α) (s : S), xs = pre ++ post → I pre s → Ok (loopS f post s) (I xs) := by
    intro post
    induction post with
    | nil => intro pre s e h; rw [List.append_nil] at e; subst e; exact ⟨s, rfl, h⟩
    | cons x post ih =>
      intro pre s e h
      obtain ⟨s', e1, h1⟩ := hs pre x post s e h
      obtain ⟨r, e2, h2⟩ := ih (pre ++ [x]) s' (by rw [e]; simp) h1
      exact ⟨r, by show (f x s).bind _ = _; rw [e1]; exact e2, h2⟩
  exact key xs [] s0 rfl h0
/-- a loop that never leaves -/
theorem Ok.loopN {f : α → S → Option (Ctl S ρ)} {xs : List α} {s0 : S} (I : List α → S → Prop) (h0 : I [] s0) (hs : ∀ pre x post s, xs = pre ++ x :: post → I pre s → Ok (f x s) fun c => ∃ s', c = .nx s' ∧ I (pre ++ [x]) s') : Ok (loopC f xs s0) fun c => ∃ s', c = .nx s' ∧ I xs s' := by
  have key : ∀ (post pre : List α) (s : S), xs = pre ++ post → I pre s → Ok (loopC f post s) fun c => ∃ s', c = .nx s' ∧ I xs s' := by
    intro post
    induction post with
    | nil => intro pre s e h; rw [List.append_nil] at e; subst e; exact ⟨_, rfl, s, rfl, h⟩
    | cons x post ih =>
      intro pre s e h
      obtain ⟨_, e1, s', rfl, h1⟩ := hs pre x post s e h
      obtain ⟨r, e2, h2⟩ := ih (pre ++ [x]) s' (by rw [e]; simp) h1
      exact ⟨r, by show (f x s).bind _ = _; rw [e1]; exact e2, h2⟩
  exact key xs [] s0 rfl h0
/-- a comprehension without a state -/
theorem comp_pure {f : α → Unit → Option (Option β × Unit)} {g : α → Option β} : ∀ {xs : List α}, (∀ x ∈ xs, f x () = some (g x, ())) → comp f xs () = some (xs.filterMap g, ())
  | [], _ => rfl
  | x :: xs, h => by
    show (f x ()).bind _ = _
    rw [h x List.mem_cons_self]
    show ((comp f xs ()).bind fun r => some (match g x with
      | some y => (y :: r.1, r.2)
      | none => r)) = _
    rw [comp_pure fun y hy => h y (List.mem_cons_of_mem _ hy), List.filterMap_cons]
    cases g x <;> rfl
end
/-! ### texts as rows of numbers -/
def cl (s : Str) : List Nat := s.cps.toList
theorem cl_len (s : Str) : s.length = (cl s).length := (Array.length_toList).symm
theorem cl_app (a b : Str) : cl (a ++ b) = cl a ++ cl b := Array.toList_append
theorem cl_sg (c : Nat) : cl ⟨#[c]⟩ = [c] := rfl
theorem sgns_cl (s : Str) : sgns s = (cl s).map fun c => ⟨#[c]⟩ := rfl
theorem sIx_nn {n d : Nat} {k : Int} (h : 0 ≤ k) : HT.sIx n d (some k) = min k.toNat n := by
  obtain ⟨m, rfl⟩ := Int.eq_ofNat_of_zero_le h
  rw [HT.sIx_nat]; rfl
theorem cut_to {α : Type} (xs : List α) {k : Int} (h : 0 ≤ k) : cut xs none (some k) = xs.take k.toNat := by
  unfold cut
  rw [HT.sIx_none, sIx_nn h, List.drop_zero, Nat.sub_zero]
  rcases Nat.le_total k.toNat xs.length with e | e
  · rw [Nat.min_eq_left e]
  · rw [Nat.min_eq_right e, List.take_of_length_le (Nat.le_refl _), List.take_of_length_le e]
theorem atI_nn {α : Type} {xs : List α} {i : Int} (h : 0 ≤ i) (h2 : i < xs.length) : atI xs i = xs[i.toNat]? := by
  unfold atI ixN
  rw [if_pos h, if_pos h2]; rfl
theorem atI_last {α : Type} {xs : List α} {a : α} : atI (xs ++ [a]) (-1) = some a := by
  unfold atI ixN
  rw [if_neg (by decide), if_pos (by simp; omega)]
  show (xs ++ [a])[((-1 : Int) + ((xs ++ [a]).length : Nat)).toNat]? = _
  have e : ((-1 : Int) + ((xs ++ [a]).length : Nat)).toNat = xs.length := by simp; omega
  rw [e]; simp
theorem ixS_ok {s : Str} {i : Int} (h : 0 ≤ i) (h2 : i < s.length) (h3 : s.length ≤ sizeLine) : Ok (ixS s i) fun z => ∃ c, (cl s)[i.toNat]? = some c ∧ z = ⟨#[c]⟩ := by
  unfold ixS
  refine Ok.gd (by unfold fitsS; exact decide_eq_true h3) ?_
  rw [atI_nn h (by rw [Array.length_toList]; exact h2)]
  have hl : i.toNat < (cl s).length := by rw [← cl_len]; omega
  refine Ok.bde (a := (cl s)[i.toNat]) (by show (cl s)[i.toNat]? = _; simp [hl]) ?_
  exact Ok.sm ⟨_, by simp [hl], rfl⟩
theorem sizeLine_big : (16000000 : Nat) ≤ sizeLine := by rw [sizeLine_eq]; decide
theorem fitsS_ok {s : Str} (h : s.length ≤ 16000000) : fitsS s = true := decide_eq_true (Nat.le_trans h sizeLine_big)
theorem fits_ok {α : Type} {s : List α} (h : s.length < 16000000) : fits s = true := decide_eq_true (Nat.lt_of_lt_of_le h sizeLine_big)
theorem fitsE_ok {α : Type} {s : List α} (h : s.length ≤ 16000000) : fitsE s = true := decide_eq_true (Nat.le_trans h sizeLine_big)
theorem catOk_ok {s t : Str} (h : s.length + t.length ≤ 16000000) : catOk s t = true := decide_eq_true (Nat.le_trans h sizeLine_big)
theorem rgOk_ok {a b : Int} (h : -16000000 ≤ a) (h2 : a ≤ 16000000) (h3 : -16000000 ≤ b) (h4 : b ≤ 16000000) : rgOk a b = true := by
  unfold rgOk
  rw [decide_eq_true (show -(2 ^ 62) ≤ a by omega), decide_eq_true (show a < 2 ^ 62 by omega), decide_eq_true (show -(2 ^ 62) ≤ b by omega), decide_eq_true (show b < 2 ^ 62 by omega)]; rfl
theorem mulOk_l {a b : Int} (h : -(2 ^ 64) < a) (h2 : a < 2 ^ 64) : mulOk a b = true := by
  unfold mulOk; rw [decide_eq_true h, decide_eq_true h2]; rfl
theorem mulOk_r {a b : Int} (h : -(2 ^ 64) < b) (h2 : b < 2 ^ 64) : mulOk a b = true := by
  unfold mulOk; rw [decide_eq_true h, decide_eq_true h2]; simp
theorem modOk_ok {a : Int} (h : 0 < a) : modOk a = true := decide_eq_true h
theorem divOk_ok {a : Int} (h : 0 < a) (h2 : a < 1073741824) : divOk a = true := by
  unfold divOk; rw [decide_eq_true h, decide_eq_true h2]; rfl
theorem rng_mem {a b i : Int} : i ∈ rng a b ↔ a ≤ i ∧ i < b := by
  unfold rng
  rw [List.mem_map]
  constructor
  · rintro ⟨j, hj, rfl⟩
    rw [List.mem_range] at hj
    omega
  · intro ⟨h1, h2⟩
    exact ⟨(i - a).toNat, by rw [List.mem_range]; omega, by omega⟩
theorem rng_len (a b : Int) : (rng a b).length = (b - a).toNat := by unfold rng; simp
theorem rng_at {a b : Int} {pre post : List Int} {x : Int} (h : rng a b = pre ++ x :: post) : x = a + pre.length ∧ pre = rng a x ∧ a ≤ x ∧ x < b := by
  have hx : x ∈ rng a b := by rw [h]; simp
  rw [rng_mem] at hx
  have hg : (rng a b)[pre.length]? = some x := by rw [h]; simp
  have hl : pre.length < (b - a).toNat := by
    have := congrArg List.length h
    rw [rng_len] at this
    simp at this
    omega
  have hx2 : x = a + pre.length := by
    unfold rng at hg
    rw [List.getElem?_map, List.getElem?_range hl] at hg
    exact (Option.some.inj hg).symm
  refine ⟨hx2, ?_, hx⟩
  have e : pre = (rng a b).take pre.length := by rw [h]; simp
  rw [e]
  unfold rng
  rw [← List.map_take, List.take_range]
  congr 2
  rw [hx2]; omega
/-! ### == of data: the sides are small -/
def okS (s : Str) : Prop := PyData.strOk s = true
theorem canAll {α : Type} {A : R α} (D : Dat A) : ∀ {xs : List α}, (∀ x ∈ xs, (D.d x).canLay0 = true) → PyData.canLayAll0 (xs.map D.d) = true
  | [], _ => rfl
  | x :: xs, h => by
    show ((D.d x).canLay0 && PyData.canLayAll0 (xs.map D.d)) = true
    rw [h x List.mem_cons_self, canAll D fun y hy => h y (List.mem_cons_of_mem _ hy)]; rfl
theorem depAll {α : Type} {A : R α} (D : Dat A) {n : Nat} : ∀ {xs : List α}, (∀ x ∈ xs, (D.d x).depth ≤ n) → PyData.depthAll (xs.map D.d) ≤ n
  | [], _ => Nat.zero_le _
  | x :: xs, h => by
    show max (D.d x).depth (PyData.depthAll (xs.map D.d)) ≤ n
    exact Nat.max_le.mpr ⟨h x List.mem_cons_self, depAll D fun y hy => h y (List.mem_cons_of_mem _ hy)⟩
theorem shp_of {α : Type} {A : R α} {D : Dat A} {a : α} (h : (D.d a).canLay0 = true) (h2 : (D.d a).depth ≤ 64) : shp D a = true := by
  show ((D.d a).canLay0 && decide ((D.d a).depth ≤ 64)) = true
  rw [h, decide_eq_true h2]; rfl
theorem shp_lS {xs : List Str} (h : ∀ x ∈ xs, okS x) : shp (dL dS) xs = true := shp_of (canAll dS h) (Nat.succ_le_of_lt (Nat.lt_of_le_of_lt (depAll dS (n := 0) fun _ _ => Nat.le_refl _) (by decide)))
theorem shp_lI (xs : List Int) : shp (dL dI) xs = true := shp_of (canAll dI fun _ _ => rfl) (Nat.succ_le_of_lt (Nat.lt_of_le_of_lt (depAll dI (n := 0) fun _ _ => Nat.le_refl _) (by decide)))
/-! ### shapes, by classes -/
class ShpD {α : Type} {A : R α} (D : Dat A) where
  ok : α → Prop
  n : Nat
  can : ∀ a, ok a → (D.d a).canLay0 = true
  dep : ∀ a, (D.d a).depth ≤ n
class ShpR {α : Type} {B : RR α} (E : DatR B) where
  ok : α → Prop
  n : Nat
  can : ∀ a, ok a → PyData.canLayAll0 (E.d a) = true
  dep : ∀ a, PyData.depthAll (E.d a) ≤ n
theorem shpD {α : Type} {A : R α} {D : Dat A} [i : ShpD D] {a : α} (h : i.ok a) (hn : i.n ≤ 64 := by decide) : shp D a = true := shp_of (i.can a h) (Nat.le_trans (i.dep a) hn)
instance sI : ShpD dI := ⟨fun _ => True, 0, fun _ _ => rfl, fun _ => Nat.le_refl _⟩
instance sB : ShpD dB := ⟨fun _ => True, 0, fun _ _ => rfl, fun _ => Nat.le_refl _⟩
instance sS : ShpD dS := ⟨okS, 0, fun _ h => h, fun _ => Nat.le_refl _⟩
instance sL {α : Type} {A : R α} {D : Dat A} [i : ShpD D] : ShpD (dL D) := ⟨fun xs => ∀ x ∈ xs, i.ok x, i.n + 1, fun xs h => canAll D fun x hx => i.can x (h x hx), fun xs => by
  show PyData.depthAll (xs.map D.d) + 1 ≤ _
  have := depAll D (n := i.n) (xs := xs) fun x _ => i.dep x
  omega⟩
instance sT {α : Type} {A : R α} {D : Dat A} [i : ShpD D] : ShpD (dT D) := ⟨fun xs => ∀ x ∈ xs, i.ok x, i.n + 1, fun xs h => canAll D fun x hx => i.can x (h x hx), fun xs => by
  show PyData.depthAll (xs.map D.d) + 1 ≤ _
  have := depAll D (n := i.n) (xs := xs) fun x _ => i.dep x
  omega⟩
instance s2 {α β : Type} {A : R α} {B : R β} {D : Dat A} {E : Dat B} [i : ShpD D] [j : ShpD E] : ShpD (d2 D E) := ⟨fun a => i.ok a.1 ∧ j.ok a.2, max i.n j.n + 1, fun a h => by
  show ((D.d a.1).canLay0 && ((E.d a.2).canLay0 && true)) = true
  rw [i.can _ h.1, j.can _ h.2]; rfl, fun a => by
  show max (D.d a.1).depth (max (E.d a.2).depth 0) + 1 ≤ _
  have h1 := i.dep a.1
  have h2 := j.dep a.2
  omega⟩
def optOk {α : Type} (P : α → Prop) : Option α → Prop
  | none => True
  | some a => P a
instance sO {α : Type} {A : R α} {D : Dat A} [NotNone D] [i : ShpD D] : ShpD (dO D) := ⟨optOk i.ok, i.n, fun a h => by
  cases a with
  | none => rfl
  | some a => exact i.can a h, fun a => by
  cases a with
  | none => exact Nat.zero_le _
  | some a => exact i.dep a⟩
instance sr1 {α : Type} {A : R α} {D : Dat A} [i : ShpD D] : ShpR (e1 D) := ⟨i.ok, i.n, fun a h => by
  show ((D.d a).canLay0 && true) = true
  rw [i.can _ h]; rfl, fun a => by
  show max (D.d a).depth 0 ≤ _
  have := i.dep a
  omega⟩
instance src {α β : Type} {A : R α} {B : RR β} {D : Dat A} {E : DatR B} [i : ShpD D] [j : ShpR E] : ShpR (ec D E) := ⟨fun a => i.ok a.1 ∧ j.ok a.2, max i.n j.n, fun a h => by
  show ((D.d a.1).canLay0 && PyData.canLayAll0 (E.d a.2)) = true
  rw [i.can _ h.1, j.can _ h.2]; rfl, fun a => by
  show max (D.d a.1).depth (PyData.depthAll (E.d a.2)) ≤ _
  have h1 := i.dep a.1
  have h2 := j.dep a.2
  omega⟩
instance sLr {α : Type} {B : RR α} {E : DatR B} [i : ShpR E] : ShpD (dLr E) := ⟨i.ok, i.n + 1, fun a h => i.can a h, fun a => Nat.succ_le_succ (i.dep a)⟩
instance sTr {α : Type} {B : RR α} {E : DatR B} [i : ShpR E] : ShpD (dTr E) := ⟨i.ok, i.n + 1, fun a h => i.can a h, fun a => Nat.succ_le_succ (i.dep a)⟩
end Gl
namespace Law
open PySem PySem.Spec PyProof.Rows L2 Gl
def top (i : Nat) : Stmt := PySem.Challenge.pw_gluedlines_k26_rules_made_and_changed.main.body.getD i (.Pass ⟨0, 0, 0, 0⟩)
abbrev s_law_pool : Stmt := top 40
abbrev s_law_good : Stmt := top 47
abbrev s_law_fields : Stmt := top 48
abbrev s_law_due : Stmt := top 49
abbrev s_is_line : Stmt := top 9
abbrev s_is_allowed : Stmt := top 25
abbrev s_Form___init__ : Stmt := inClass (top 28) 3
abbrev s_law_form : Stmt := top 45
abbrev s_law_take : Stmt := top 41
abbrev s_law_value : Stmt := top 46
abbrev s_is_allowed_rules : Stmt := top 33
abbrev s_check_settings : Stmt := top 35
abbrev s_Rule___init__ : Stmt := inClass (top 37) 0
abbrev s_law_refused : Stmt := top 52
abbrev s_law_all_signs : Stmt := top 42
abbrev s_law_text : Stmt := top 43
abbrev s_law_parts : Stmt := top 44
abbrev s_Form___str__ : Stmt := inClass (top 28) 4
abbrev s_Both___str__ : Stmt := inClass (top 29) 1
abbrev s_Either___str__ : Stmt := inClass (top 30) 1
abbrev s_Rule_begins : Stmt := inClass (top 37) 10
abbrev s_Rule_ends : Stmt := inClass (top 37) 11
abbrev s_Rule_change : Stmt := inClass (top 37) 9
abbrev s_Rule_most : Stmt := inClass (top 37) 1
abbrev s_Rule_alone : Stmt := inClass (top 37) 3
abbrev s_Rule_tags : Stmt := inClass (top 37) 5
abbrev s_Rule_quiet : Stmt := inClass (top 37) 7
abbrev s_law_same : Stmt := top 50
abbrev s_law_tells : Stmt := top 51
abbrev s_assign : Stmt := top 38
abbrev s_law_assigned : Stmt := top 56
abbrev s_law_assigns : Stmt := top 57
abbrev s_law_change : Stmt := top 54
abbrev s_law_strange : Stmt := top 55
abbrev s_law_changes : Stmt := top 58
abbrev s_law_rules : Stmt := top 59
abbrev s_law_below : Stmt := top 53
abbrev s_law : Stmt := top 60
abbrev si_NoRule : Stmt := inClass (top 4) 0
abbrev s_Rule_alone_vset : Stmt := inClass (top 37) 4
abbrev s_Rule_most_vset : Stmt := inClass (top 37) 2
abbrev s_Rule_quiet_vset : Stmt := inClass (top 37) 8
abbrev s_Rule_tags_vset : Stmt := inClass (top 37) 6
def fn : List He.DefD := [⟨("_law_pool", none), "_law_pool", "_law_pool", defArgs s_law_pool, defBody s_law_pool, defScope s_law_pool, [], []⟩,
  ⟨("_law_good", none), "_law_good", "_law_good", defArgs s_law_good, defBody s_law_good, defScope s_law_good, [], []⟩,
  ⟨("_law_fields", none), "_law_fields", "_law_fields", defArgs s_law_fields, defBody s_law_fields, defScope s_law_fields, [], []⟩,
  ⟨("_law_due", none), "_law_due", "_law_due", defArgs s_law_due, defBody s_law_due, defScope s_law_due, [], []⟩,
  ⟨("is_line", none), "is_line", "is_line", defArgs s_is_line, defBody s_is_line, defScope s_is_line, [], []⟩,
  ⟨("is_allowed_patterns", none), "is_allowed", "is_allowed", defArgs s_is_allowed, defBody s_is_allowed, defScope s_is_allowed, [], []⟩,
  ⟨("Form", some "__init__"), "__init__", "Form.__init__", defArgs s_Form___init__, defBody s_Form___init__, defScope s_Form___init__, [], []⟩,
  ⟨("_law_form", none), "_law_form", "_law_form", defArgs s_law_form, defBody s_law_form, defScope s_law_form, [], []⟩,
  ⟨("_law_take", none), "_law_take", "_law_take", defArgs s_law_take, defBody s_law_take, defScope s_law_take, [], []⟩,
  ⟨("_law_value", none), "_law_value", "_law_value", defArgs s_law_value, defBody s_law_value, defScope s_law_value, [], []⟩,
  ⟨("is_allowed_rules", none), "is_allowed", "is_allowed", defArgs s_is_allowed_rules, defBody s_is_allowed_rules, defScope s_is_allowed_rules, [], []⟩,
  ⟨("check_settings", none), "check_settings", "check_settings", defArgs s_check_settings, defBody s_check_settings, defScope s_check_settings, [], []⟩,
  ⟨("Rule", some "__init__"), "__init__", "Rule.__init__", defArgs s_Rule___init__, defBody s_Rule___init__, defScope s_Rule___init__, [], [("most", .non), ("alone", .bl true), ("tags", .non), ("quiet", .bl false)]⟩,
  ⟨("_law_refused", none), "_law_refused", "_law_refused", defArgs s_law_refused, defBody s_law_refused, defScope s_law_refused, [], []⟩,
  ⟨("_law_all_signs", none), "_law_all_signs", "_law_all_signs", defArgs s_law_all_signs, defBody s_law_all_signs, defScope s_law_all_signs, [], []⟩,
  ⟨("_law_text", none), "_law_text", "_law_text", defArgs s_law_text, defBody s_law_text, defScope s_law_text, [], []⟩,
  ⟨("_law_parts", none), "_law_parts", "_law_parts", defArgs s_law_parts, defBody s_law_parts, defScope s_law_parts, [], []⟩,
  ⟨("Form", some "__str__"), "__str__", "Form.__str__", defArgs s_Form___str__, defBody s_Form___str__, defScope s_Form___str__, [], []⟩,
  ⟨("Both", some "__str__"), "__str__", "Both.__str__", defArgs s_Both___str__, defBody s_Both___str__, defScope s_Both___str__, [], []⟩,
  ⟨("Either", some "__str__"), "__str__", "Either.__str__", defArgs s_Either___str__, defBody s_Either___str__, defScope s_Either___str__, [], []⟩,
  ⟨("Rule", some "begins"), "begins", "Rule.begins", defArgs s_Rule_begins, defBody s_Rule_begins, defScope s_Rule_begins, [], []⟩,
  ⟨("Rule", some "ends"), "ends", "Rule.ends", defArgs s_Rule_ends, defBody s_Rule_ends, defScope s_Rule_ends, [], []⟩,
  ⟨("Rule", some "change"), "change", "Rule.change", defArgs s_Rule_change, defBody s_Rule_change, defScope s_Rule_change, [], []⟩,
  ⟨("_law_same", none), "_law_same", "_law_same", defArgs s_law_same, defBody s_law_same, defScope s_law_same, [], []⟩,
  ⟨("_law_tells", none), "_law_tells", "_law_tells", defArgs s_law_tells, defBody s_law_tells, defScope s_law_tells, [], []⟩,
  ⟨("assign", none), "assign", "assign", defArgs s_assign, defBody s_assign, defScope s_assign, [], []⟩,
  ⟨("_law_assigned", none), "_law_assigned", "_law_assigned", defArgs s_law_assigned, defBody s_law_assigned, defScope s_law_assigned, [], []⟩,
  ⟨("_law_assigns", none), "_law_assigns", "_law_assigns", defArgs s_law_assigns, defBody s_law_assigns, defScope s_law_assigns, [], []⟩,
  ⟨("_law_change", none), "_law_change", "_law_change", defArgs s_law_change, defBody s_law_change, defScope s_law_change, [], []⟩,
  ⟨("_law_strange", none), "_law_strange", "_law_strange", defArgs s_law_strange, defBody s_law_strange, defScope s_law_strange, [], []⟩,
  ⟨("_law_changes", none), "_law_changes", "_law_changes", defArgs s_law_changes, defBody s_law_changes, defScope s_law_changes, [], []⟩,
  ⟨("_law_rules", none), "_law_rules", "_law_rules", defArgs s_law_rules, defBody s_law_rules, defScope s_law_rules, [], []⟩,
  ⟨("_law_below", none), "_law_below", "_law_below", defArgs s_law_below, defBody s_law_below, defScope s_law_below, [], []⟩,
  ⟨("law", none), "law", "law", defArgs s_law, defBody s_law, defScope s_law, [], []⟩]
def fa : List He.Fa := [.glo "_law_pool", .glo "_law_good", .glo "_law_fields", .glo "_law_due", .glo "is_line", .glo "is_allowed_patterns", .glo "_law_form", .glo "_law_take", .glo "_law_value", .glo "is_allowed_rules", .glo "check_settings", .glo "_law_refused", .glo "_law_all_signs", .glo "_law_text", .glo "_law_parts", .glo "_law_same", .glo "_law_tells", .glo "assign", .glo "_law_assigned", .glo "_law_assigns", .glo "_law_change", .glo "_law_strange", .glo "_law_changes", .glo "_law_rules", .glo "_law_below", .glo "law", .glo "Form", .cls "Form", .noat "Form" "pieces", .mkr "Form", .meth "Form" "__str__", .glo "Both", .cls "Both", .noat "Both" "left", .noat "Both" "right", .meth "Both" "__str__", .glo "Either", .cls "Either", .noat "Either" "left", .noat "Either" "right", .meth "Either" "__str__", .glo "Rule", .cls "Rule", .noat "Rule" "openers", .noat "Rule" "closers", .noat "Rule" "settings", .mkr "Rule", .meth "Rule" "begins", .meth "Rule" "ends", .meth "Rule" "change", .glo "GlueError", .glo "NoRule", .free "bool", .free "int", .free "isinstance", .free "len", .free "list", .free "max", .free "min", .free "range", .free "str", .str "ANY_CELL" "<any>", .glo "FIELDS", .glo "FREE_CELLS", .int "MOST_PARTS" 4, .int "MOST_SIGNS" 4, .str "SIGNS" " #-.0123456789:>ABCDEFGHIJKLMNOPQRSTUVWXYZabcdefghijklmnopqrstuvwxyz"]
abbrev FnU : Type := Option (Str × Str × Arguments × FuncBody × Scope × Addr × Addr)
def fwDrop (z : Str × Str × Arguments × FuncBody × Scope × Addr × List (Str × Addr) × Addr) : Str × Str × Arguments × FuncBody × Scope × Addr × Addr := (z.1, z.2.1, z.2.2.1, z.2.2.2.1, z.2.2.2.2.1, z.2.2.2.2.2.1, z.2.2.2.2.2.2.2)
theorem fw_mk {L : He.FnW} {n q : Str} {a : Arguments} {b : FuncBody} {s : Scope} {m m' : Addr} {c : List (Str × Addr)} (h : L.map fwDrop = some (n, q, a, b, s, m, m')) (k : decide (L.map (fun z => z.2.2.2.2.2.2.1) = some c) = true) : L = some (n, q, a, b, s, m, c, m') := by
  have k := of_decide_eq_true k
  cases L with
  | none => cases h
  | some z =>
    obtain ⟨z1, z2, z3, z4, z5, z6, z7, z8⟩ := z
    have k : z7 = c := Option.some.inj k
    have h : (z1, z2, z3, z4, z5, z6, z8) = (n, q, a, b, s, m, m') := Option.some.inj h
    simp only [Prod.mk.injEq] at h
    obtain ⟨h1, h2, h3, h4, h5, h6, h7⟩ := h
    rw [k, h1, h2, h3, h4, h5, h6, h7]
def fwL_NoRule (K : PySem.W.Frag) : He.FnW := He.fnW K ("NoRule", some "__init__")
def lhs_NoRule (K : PySem.W.Frag) : FnU := (fwL_NoRule K).map fwDrop
def rhs_NoRule : FnU := some (("__init__" : Str), ("NoRule.__init__" : Str), defArgs si_NoRule, FuncBody.stmts (defBody si_NoRule), defScope si_NoRule, mainGlobals, builtinsNs)
def clo_NoRule (K : PySem.W.Frag) : List (Str × Addr) := [(("__class__" : Str), ccOf K "NoRule")]
def fwL_Rule_most (K : PySem.W.Frag) : He.FnW := fnG K "Rule" "most"
def lhs_Rule_most (K : PySem.W.Frag) : FnU := (fwL_Rule_most K).map fwDrop
def rhs_Rule_most : FnU := some (("most" : Str), ("Rule.most" : Str), defArgs s_Rule_most, FuncBody.stmts (defBody s_Rule_most), defScope s_Rule_most, mainGlobals, builtinsNs)
def clo_Rule_most (K : PySem.W.Frag) : List (Str × Addr) := []
def fwL_Rule_alone (K : PySem.W.Frag) : He.FnW := fnG K "Rule" "alone"
def lhs_Rule_alone (K : PySem.W.Frag) : FnU := (fwL_Rule_alone K).map fwDrop
def rhs_Rule_alone : FnU := some (("alone" : Str), ("Rule.alone" : Str), defArgs s_Rule_alone, FuncBody.stmts (defBody s_Rule_alone), defScope s_Rule_alone, mainGlobals, builtinsNs)
def clo_Rule_alone (K : PySem.W.Frag) : List (Str × Addr) := []
def fwL_Rule_tags (K : PySem.W.Frag) : He.FnW := fnG K "Rule" "tags"
def lhs_Rule_tags (K : PySem.W.Frag) : FnU := (fwL_Rule_tags K).map fwDrop
def rhs_Rule_tags : FnU := some (("tags" : Str), ("Rule.tags" : Str), defArgs s_Rule_tags, FuncBody.stmts (defBody s_Rule_tags), defScope s_Rule_tags, mainGlobals, builtinsNs)
def clo_Rule_tags (K : PySem.W.Frag) : List (Str × Addr) := []
def fwL_Rule_quiet (K : PySem.W.Frag) : He.FnW := fnG K "Rule" "quiet"
def lhs_Rule_quiet (K : PySem.W.Frag) : FnU := (fwL_Rule_quiet K).map fwDrop
def rhs_Rule_quiet : FnU := some (("quiet" : Str), ("Rule.quiet" : Str), defArgs s_Rule_quiet, FuncBody.stmts (defBody s_Rule_quiet), defScope s_Rule_quiet, mainGlobals, builtinsNs)
def clo_Rule_quiet (K : PySem.W.Frag) : List (Str × Addr) := []
def fwL_Rule_alone_vset (K : PySem.W.Frag) : He.FnW := fnS K "Rule" "alone"
def lhs_Rule_alone_vset (K : PySem.W.Frag) : FnU := (fwL_Rule_alone_vset K).map fwDrop
def rhs_Rule_alone_vset : FnU := some (("alone" : Str), ("Rule.alone" : Str), defArgs s_Rule_alone_vset, FuncBody.stmts (defBody s_Rule_alone_vset), defScope s_Rule_alone_vset, mainGlobals, builtinsNs)
def clo_Rule_alone_vset (K : PySem.W.Frag) : List (Str × Addr) := []
def fwL_Rule_most_vset (K : PySem.W.Frag) : He.FnW := fnS K "Rule" "most"
def lhs_Rule_most_vset (K : PySem.W.Frag) : FnU := (fwL_Rule_most_vset K).map fwDrop
def rhs_Rule_most_vset : FnU := some (("most" : Str), ("Rule.most" : Str), defArgs s_Rule_most_vset, FuncBody.stmts (defBody s_Rule_most_vset), defScope s_Rule_most_vset, mainGlobals, builtinsNs)
def clo_Rule_most_vset (K : PySem.W.Frag) : List (Str × Addr) := []
def fwL_Rule_quiet_vset (K : PySem.W.Frag) : He.FnW := fnS K "Rule" "quiet"
def lhs_Rule_quiet_vset (K : PySem.W.Frag) : FnU := (fwL_Rule_quiet_vset K).map fwDrop
def rhs_Rule_quiet_vset : FnU := some (("quiet" : Str), ("Rule.quiet" : Str), defArgs s_Rule_quiet_vset, FuncBody.stmts (defBody s_Rule_quiet_vset), defScope s_Rule_quiet_vset, mainGlobals, builtinsNs)
def clo_Rule_quiet_vset (K : PySem.W.Frag) : List (Str × Addr) := []
def fwL_Rule_tags_vset (K : PySem.W.Frag) : He.FnW := fnS K "Rule" "tags"
def lhs_Rule_tags_vset (K : PySem.W.Frag) : FnU := (fwL_Rule_tags_vset K).map fwDrop
def rhs_Rule_tags_vset : FnU := some (("tags" : Str), ("Rule.tags" : Str), defArgs s_Rule_tags_vset, FuncBody.stmts (defBody s_Rule_tags_vset), defScope s_Rule_tags_vset, mainGlobals, builtinsNs)
def clo_Rule_tags_vset (K : PySem.W.Frag) : List (Str × Addr) := []
def fw_NoRule (K : PySem.W.Frag) : Prop := He.fnW K ("NoRule", some "__init__") = some (("__init__" : Str), ("NoRule.__init__" : Str), defArgs si_NoRule, FuncBody.stmts (defBody si_NoRule), defScope si_NoRule, mainGlobals, [(("__class__" : Str), ccOf K "NoRule")], builtinsNs)
def fw_Rule_most (K : PySem.W.Frag) : Prop := fnG K "Rule" "most" = some (("most" : Str), ("Rule.most" : Str), defArgs s_Rule_most, FuncBody.stmts (defBody s_Rule_most), defScope s_Rule_most, mainGlobals, [], builtinsNs)
def fw_Rule_alone (K : PySem.W.Frag) : Prop := fnG K "Rule" "alone" = some (("alone" : Str), ("Rule.alone" : Str), defArgs s_Rule_alone, FuncBody.stmts (defBody s_Rule_alone), defScope s_Rule_alone, mainGlobals, [], builtinsNs)
def fw_Rule_tags (K : PySem.W.Frag) : Prop := fnG K "Rule" "tags" = some (("tags" : Str), ("Rule.tags" : Str), defArgs s_Rule_tags, FuncBody.stmts (defBody s_Rule_tags), defScope s_Rule_tags, mainGlobals, [], builtinsNs)
def fw_Rule_quiet (K : PySem.W.Frag) : Prop := fnG K "Rule" "quiet" = some (("quiet" : Str), ("Rule.quiet" : Str), defArgs s_Rule_quiet, FuncBody.stmts (defBody s_Rule_quiet), defScope s_Rule_quiet, mainGlobals, [], builtinsNs)
def fw_Rule_alone_vset (K : PySem.W.Frag) : Prop := fnS K "Rule" "alone" = some (("alone" : Str), ("Rule.alone" : Str), defArgs s_Rule_alone_vset, FuncBody.stmts (defBody s_Rule_alone_vset), defScope s_Rule_alone_vset, mainGlobals, [], builtinsNs)
def fw_Rule_most_vset (K : PySem.W.Frag) : Prop := fnS K "Rule" "most" = some (("most" : Str), ("Rule.most" : Str), defArgs s_Rule_most_vset, FuncBody.stmts (defBody s_Rule_most_vset), defScope s_Rule_most_vset, mainGlobals, [], builtinsNs)
def fw_Rule_quiet_vset (K : PySem.W.Frag) : Prop := fnS K "Rule" "quiet" = some (("quiet" : Str), ("Rule.quiet" : Str), defArgs s_Rule_quiet_vset, FuncBody.stmts (defBody s_Rule_quiet_vset), defScope s_Rule_quiet_vset, mainGlobals, [], builtinsNs)
def fw_Rule_tags_vset (K : PySem.W.Frag) : Prop := fnS K "Rule" "tags" = some (("tags" : Str), ("Rule.tags" : Str), defArgs s_Rule_tags_vset, FuncBody.stmts (defBody s_Rule_tags_vset), defScope s_Rule_tags_vset, mainGlobals, [], builtinsNs)
def tabs (P : Program) (K : PySem.W.Frag) : Bool := (patB K && (He.tupB K "FIELDS" [.str "most", .str "alone", .str "tags", .str "quiet"] && (He.tupB K "FREE_CELLS" [.str "<digits>", .str "<word>", .str "<any>"] && (errB P K "NoRule" "NoRule.__init__" ["field"] && (exmB K "NoRule" "GlueError" && (exmB K "NoRule" "NoRule" && (isEB K (He.ga K "NoRule") && (kitB K (He.ga K "NoRule") (.ref (He.ga K "NoRule")) true && (prB K "Rule" "most" "Rule.most" && (prB K "Rule" "alone" "Rule.alone" && (prB K "Rule" "tags" "Rule.tags" && (prB K "Rule" "quiet" "Rule.quiet" && (psB K "Rule" "alone" "Rule.alone" && (psB K "Rule" "most" "Rule.most" && (psB K "Rule" "quiet" "Rule.quiet" && (psB K "Rule" "tags" "Rule.tags" && true))))))))))))))))
/-! the top, run in the kernel -/
abbrev RR : PySem.W.OpenRow := PySem.W.OpenLaw.row PySem.Challenge.rw_gluedlines_k26_rules_made_and_changed
def loose0 : List PySem.Str := [("_wall" : PySem.Str), ("GlueError" : PySem.Str), ("NoForm" : PySem.Str), ("NoRule" : PySem.Str), ("SIGNS" : PySem.Str), ("DIGIT_SIGNS" : PySem.Str), ("LETTER_SIGNS" : PySem.Str), ("is_line" : PySem.Str), ("DIGITS_CELL" : PySem.Str), ("WORD_CELL" : PySem.Str), ("ANY_CELL" : PySem.Str), ("FREE_CELLS" : PySem.Str), ("cells_of" : PySem.Str), ("takes" : PySem.Str), ("closed" : PySem.Str), ("started" : PySem.Str), ("moved" : PySem.Str), ("is_done" : PySem.Str), ("MOST_FORMS" : PySem.Str), ("MOST_PARTS" : PySem.Str), ("MOST_SIGNS" : PySem.Str), ("is_allowed" : PySem.Str), ("is_allowed_patterns" : PySem.Str), ("Pattern" : PySem.Str), ("Form" : PySem.Str), ("Both" : PySem.Str), ("Either" : PySem.Str), ("FIELDS" : PySem.Str), ("is_allowed_rules" : PySem.Str), ("check_settings" : PySem.Str), ("are_among" : PySem.Str), ("Rule" : PySem.Str), ("assign" : PySem.Str), ("_law_pool" : PySem.Str), ("_law_take" : PySem.Str), ("_law_all_signs" : PySem.Str), ("_law_text" : PySem.Str), ("_law_parts" : PySem.Str), ("_law_form" : PySem.Str), ("_law_value" : PySem.Str)]
def loose1 : List PySem.Str := [("_law_good" : PySem.Str), ("_law_fields" : PySem.Str), ("_law_due" : PySem.Str), ("_law_same" : PySem.Str), ("_law_tells" : PySem.Str), ("_law_refused" : PySem.Str), ("_law_below" : PySem.Str), ("_law_change" : PySem.Str), ("_law_strange" : PySem.Str), ("_law_assigned" : PySem.Str), ("_law_assigns" : PySem.Str), ("_law_changes" : PySem.Str), ("_law_rules" : PySem.Str)]
def loose : List PySem.Str := loose0 ++ loose1
def refsN (o : Obj) : List Addr := match o.data with
  | .seq its _ => its.toList.flatMap He.refV
  | .dict es _ => es.toList.flatMap fun e => He.refV e.val
  | .func fd => He.refV fd.code ++ He.refV fd.defaults ++ He.refV fd.kwdefaults ++ fd.closure.map (·.2)
  | .cls cd => [cd.ns]
  | .fields vs => (match o.cls with
    | .type "code" => []
    | _ => vs.toList.flatMap He.refV)
  | .cell (some v) => He.refV v
  | _ => []
def levG (g : Addr → Option Obj) : Nat → List Addr → List Addr
  | 0, as => as
  | n + 1, as => as ++ levG g n (as.flatMap fun a => match g a with
    | some o => refsN o
    | none => [])
def obK (K : PySem.W.Frag) : Bool × List FnU × He.AlD := (tabs RR.prog K && decide ((fwL_NoRule K).map (fun z => z.2.2.2.2.2.2.1) = some (clo_NoRule K)) && decide ((fwL_Rule_most K).map (fun z => z.2.2.2.2.2.2.1) = some (clo_Rule_most K)) && decide ((fwL_Rule_alone K).map (fun z => z.2.2.2.2.2.2.1) = some (clo_Rule_alone K)) && decide ((fwL_Rule_tags K).map (fun z => z.2.2.2.2.2.2.1) = some (clo_Rule_tags K)) && decide ((fwL_Rule_quiet K).map (fun z => z.2.2.2.2.2.2.1) = some (clo_Rule_quiet K)) && decide ((fwL_Rule_alone_vset K).map (fun z => z.2.2.2.2.2.2.1) = some (clo_Rule_alone_vset K)) && decide ((fwL_Rule_most_vset K).map (fun z => z.2.2.2.2.2.2.1) = some (clo_Rule_most_vset K)) && decide ((fwL_Rule_quiet_vset K).map (fun z => z.2.2.2.2.2.2.1) = some (clo_Rule_quiet_vset K)) && decide ((fwL_Rule_tags_vset K).map (fun z => z.2.2.2.2.2.2.1) = some (clo_Rule_tags_vset K)), [lhs_NoRule K, lhs_Rule_most K, lhs_Rule_alone K, lhs_Rule_tags K, lhs_Rule_quiet K, lhs_Rule_alone_vset K, lhs_Rule_most_vset K, lhs_Rule_quiet_vset K, lhs_Rule_tags_vset K], He.obsD fa fn K)
def obG (g : Addr → Option Obj) : Bool × List FnU × He.AlD := obK (He.frG g (cStatics :: levG g 5 [mainGlobals]))
def hk : PySem.W.Hook where
  α := Bool × List FnU × He.AlD
  obs := fun s => obG s.heap.get?
  val := fun _ => (true, [rhs_NoRule, rhs_Rule_most, rhs_Rule_alone, rhs_Rule_tags, rhs_Rule_quiet, rhs_Rule_alone_vset, rhs_Rule_most_vset, rhs_Rule_quiet_vset, rhs_Rule_tags_vset], He.valD fn)
  says := fun _ h => ∃ K : PySem.W.Frag, K.In h ∧ obK K = (true, [rhs_NoRule, rhs_Rule_most, rhs_Rule_alone, rhs_Rule_tags, rhs_Rule_quiet, rhs_Rule_alone_vset, rhs_Rule_most_vset, rhs_Rule_quiet_vset, rhs_Rule_tags_vset], He.valD fn)
  of := fun _ _ e => ⟨_, He.frG_in, e⟩
  keeps := fun _ _ _ ⟨K, hK, c⟩ k => ⟨K, PySem.W.Frag.In.keeps hK k, c⟩
def ob (s : PySem.W.SharedT) : Bool × List FnU × He.AlD := obG (HandSHeadRun.getT s)
theorem ob_eq (s : PySem.W.SharedT) : ob s = hk.obs s.abs := by
  have e : HandSHeadRun.getT s = s.abs.heap.get? := funext (HandSHeadRun.getT_eq s)
  show obG (HandSHeadRun.getT s) = obG s.abs.heap.get?
  rw [e]
theorem run_join {α β γ δ : Type} {x : Option δ} {A : δ → α} {B : δ → β} {C : δ → γ} {a : α} {b : β} {c : γ} (h1 : x.map A = some a) (h2 : x.map B = some b) (h3 : x.map C = some c) : x.map (fun s => (A s, B s, C s)) = some (a, b, c) := by
  cases x with
  | none => cases h1
  | some s =>
    have e1 : A s = a := Option.some.inj h1
    have e2 : B s = b := Option.some.inj h2
    have e3 : C s = c := Option.some.inj h3
    subst e1 e2 e3
    rfl
theorem runA (w : World) (os : OsState) : (HandSHeadRun.endF (HandSHeadRun.stepQ (HandSHeadRun.denQ HandSHeadRun.tabQ) RR.prog w) 60000 RR.prog w os).map (fun s => HandSHeadRun.looksF RR.prog (PySem.W.boot_heap w.params) s.abs) = some true := by kernel_rfl
theorem runB (w : World) (os : OsState) : (HandSHeadRun.endF (HandSHeadRun.stepQ (HandSHeadRun.denQ HandSHeadRun.tabQ) RR.prog w) 60000 RR.prog w os).map (fun s => HandSHeadRun.seenQ (PySem.W.view RR.prog [60]) loose (PySem.importedModules RR.prog.main.body) (fun s => PySem.W.xlAt (PySem.W.view RR.prog [60]) [] s && PySem.W.recOk RR.toRowW.records s) s.abs) = some (PySem.W.openGood (PySem.W.view RR.prog [60]) loose) := by kernel_rfl
theorem runC (w : World) (os : OsState) : (HandSHeadRun.endF (HandSHeadRun.stepQ (HandSHeadRun.denQ HandSHeadRun.tabQ) RR.prog w) 60000 RR.prog w os).map ob = some (hk.val w) := by kernel_rfl
theorem run (w : World) : HandSHeadRun.RunEq RR (PySem.W.view RR.prog [60]) hk ob 60000 loose w := fun os => run_join (runA w os) (runB w os) (runC w os)


def qBoth : R (Pat × Pat) := ⟨fun K F v a => ∃ (p dx : Addr) (u0 u1 : V), v = .ref p ∧ F p = some (.ins (He.ga K "Both") dx [("left", u0), ("right", u1)]) ∧ qPat.r K F u0 a.1 ∧ qPat.r K F u1 a.2, fun e ⟨p, dx, u0, u1, h1, h2, k0, k1⟩ => ⟨p, dx, u0, u1, h1, e _ _ h2, qPat.mono e k0, qPat.mono e k1⟩⟩
def qEither : R (Pat × Pat) := ⟨fun K F v a => ∃ (p dx : Addr) (u0 u1 : V), v = .ref p ∧ F p = some (.ins (He.ga K "Either") dx [("left", u0), ("right", u1)]) ∧ qPat.r K F u0 a.1 ∧ qPat.r K F u1 a.2, fun e ⟨p, dx, u0, u1, h1, h2, k0, k1⟩ => ⟨p, dx, u0, u1, h1, e _ _ h2, qPat.mono e k0, qPat.mono e k1⟩⟩
def qRule : R ((List Pat) × (List Pat) × (List (Str × Th))) := ⟨fun K F v a => ∃ (p dx : Addr) (u0 u1 u2 : V), v = .ref p ∧ F p = some (.ins (He.ga K "Rule") dx [("openers", u0), ("closers", u1), ("settings", u2)]) ∧ (qL qPat).r K F u0 a.1 ∧ (qL qPat).r K F u1 a.2.1 ∧ qSd.r K F u2 a.2.2, fun e ⟨p, dx, u0, u1, u2, h1, h2, k0, k1, k2⟩ => ⟨p, dx, u0, u1, u2, h1, e _ _ h2, (qL qPat).mono e k0, (qL qPat).mono e k1, qSd.mono e k2⟩⟩
def m_law_pool (a__law_script : (List Int)) (a__law_k : Int) : Option (Int × Int) :=
  (((gd (shp (dL dI) a__law_script) <| gd (shp (dL dI) ([] : List Int)) <| if (!decide (a__law_script = ([] : List Int))) = true then (gd (modOk ((a__law_script).length : Int)) <| (atI a__law_script (a__law_k % ((a__law_script).length : Int))).bind fun t14 => some (t14)) else (some (0)))).bind fun (t1 : Int) => gd (modOk 2147483629) <| gd (mulOk 104729 a__law_k) <| gd (mulOk (((t1 % 2147483629) + (104729 * a__law_k)) + 11) 48271) <| gd (modOk 2147483647) <| gd (powOk 10 18) <| gd (mulOk t1 (b2I ((decide ((10 ^ (18 : Int).toNat) ≤ t1))))) <| some ((t1 * (b2I ((decide ((10 ^ (18 : Int).toNat) ≤ t1))))), (((((t1 % 2147483629) + (104729 * a__law_k)) + 11) * 48271) % 2147483647)))
def m_law_good (a__law_k : Int) (a__law_value_here : Th) : Option Bool :=
  (if (decide (a__law_k ∈ ([1, 3] : List Int))) = true then (some (thIs "bool" a__law_value_here)) else (if (thNon a__law_value_here) = true then (some true) else (if ((!(thIs "int" a__law_value_here)) || (thIs "bool" a__law_value_here)) = true then (some false) else ((if (decide (a__law_k = 0)) = true then ((thI a__law_value_here).bind fun t17 => some ((decide (1 ≤ t17) && decide (t17 ≤ 20)))) else ((thI a__law_value_here).bind fun t25 => some ((decide (0 ≤ t25) && decide (t25 ≤ 9))))).bind fun t10 => some t10))))
def m_law_fields  : Option (List Str) :=
  (some [("most" : Str), ("alone" : Str), ("tags" : Str), ("quiet" : Str)])
def m_law_due_b1 (a__law_values : (List Th)) (x10 : Int) (s12 : Unit) : Option (Ctl Unit (Option Str)) :=
  ((atI a__law_values x10).bind fun t23 => (m_law_good (x10) (t23)).bind fun t27 => if (!t27) = true then ((m_law_fields).bind fun t36 => (atI t36 x10).bind fun t44 => some (.rt (some t44))) else (some (.nx ())))
def m_law_due (a__law_values : (List Th)) (a__law_asked : (List Int)) : Option (Option Str) :=
  ((loopC (m_law_due_b1 a__law_values) a__law_asked ()).bind fun t5 => aft t5 fun s53 => some none)
def m_is_line_b1  (x28 : Str) (s30 : Unit) : Option (Ctl Unit Bool) :=
  (if (!inS x28 (" #-.0123456789:>ABCDEFGHIJKLMNOPQRSTUVWXYZabcdefghijklmnopqrstuvwxyz" : Str)) = true then (some (.rt false)) else (some (.nx ())))
def m_is_line (a_thing : Th) : Option Bool :=
  ((if (!(thIs "str" a_thing)) = true then some (true) else ((thS a_thing).bind fun t10 => some ((decide (t10 = ("" : Str)))))).bind fun t4 => if t4 = true then (some false) else ((thS a_thing).bind fun t20 => (loopC m_is_line_b1 (sgns t20) ()).bind fun t23 => aft t23 fun s46 => some true))
def m_is_allowed (a_parts : (List Str)) (a_at : Int) : Option Bool :=
  ((atI a_parts a_at).bind fun t1 => if ((decide ((4) ≤ a_at)) || false) = true then (some false) else (if (decide (t1 = ("<any>" : Str))) = true then (some (!decide (("<any>" : Str) ∈ (cut a_parts none (some a_at))))) else (if (decide (t1 ∈ (["<digits>", "<word>", "<any>"] : List Str))) = true then (some true) else ((if (decide (0 < a_at)) = true then ((atI a_parts (a_at - 1)).bind fun t26 => some ((!decide (t26 ∈ (["<digits>", "<word>", "<any>"] : List Str))))) else some (false)).bind fun t20 => if t20 = true then (some false) else ((m_is_line ((Th.d (PyData.str (t1))))).bind fun t39 => (if t39 = true then (gd (fitsS t1) <| some ((decide (((t1).length : Int) ≤ (4))))) else some (false)).bind fun t48 => some t48)))))
def m_Form___init___b1 (a_parts : (List Str)) (x8 : Int) (s10 : Unit) : Option Unit :=
  ((m_is_allowed (a_parts) (x8)).bind fun t21 => if (!t21) = true then (none) else (some ()))
def m_Form___init__ (a_parts : (List Str)) : Option (List Str) :=
  (if (decide (((a_parts).length : Int) = 0)) = true then (none) else (gd (rgOk 0 ((a_parts).length : Int)) <| (loopS (m_Form___init___b1 a_parts) (rng 0 ((a_parts).length : Int)) ()).bind fun t3 => some (a_parts)))
def m_law_form (a__law_parts_here : (List Str)) : Option (List Str) :=
  (if (decide (((a__law_parts_here).length : Int) = 1)) = true then ((atI a__law_parts_here 0).bind fun t2 => (m_Form___init__ [t2]).bind fun t6 => some t6) else (if (decide (((a__law_parts_here).length : Int) = 2)) = true then ((atI a__law_parts_here 0).bind fun t15 => (atI a__law_parts_here 1).bind fun t19 => (m_Form___init__ [t15, t19]).bind fun t23 => some t23) else ((atI a__law_parts_here 0).bind fun t31 => (atI a__law_parts_here 1).bind fun t35 => (atI a__law_parts_here 2).bind fun t39 => (m_Form___init__ [t31, t35, t39]).bind fun t43 => some t43)))
def m_law_take (a__law_pool_here : (Int × Int)) (a__law_many : Int) : Option (Int × (Int × Int)) :=
  (if (decide (0 < (a__law_pool_here).1)) = true then (gd (modOk a__law_many) <| gd (divOk a__law_many) <| some (((a__law_pool_here).1 % a__law_many), (((a__law_pool_here).1 / a__law_many), (a__law_pool_here).2))) else (gd (mulOk (a__law_pool_here).2 48271) <| gd (modOk 2147483647) <| gd (mulOk (((a__law_pool_here).1, ((((a__law_pool_here).2 * 48271) + 11) % 2147483647))).2 (((a__law_pool_here).1, ((((a__law_pool_here).2 * 48271) + 11) % 2147483647))).2) <| gd (modOk 2147483629) <| gd (divOk 64) <| gd (modOk a__law_many) <| some ((((((((a__law_pool_here).1, ((((a__law_pool_here).2 * 48271) + 11) % 2147483647))).2 * (((a__law_pool_here).1, ((((a__law_pool_here).2 * 48271) + 11) % 2147483647))).2) % 2147483629) / 64) % a__law_many), ((a__law_pool_here).1, ((((a__law_pool_here).2 * 48271) + 11) % 2147483647)))))
def m_law_value (a__law_pool_here : (Int × Int)) (a__law_k : Int) : Option (Th × (Int × Int)) :=
  ((m_law_take (a__law_pool_here) (6)).bind fun t1 => if (decide (t1.1 = 0)) = true then ((m_law_take (t1.2) (6)).bind fun t24 => (atI [(Th.d (PyData.none)), (Th.d (PyData.bool (true))), (Th.d (PyData.bool (false))), (Th.d (PyData.str (("" : Str)))), (Th.d (PyData.str (("2" : Str)))), (Th.d ((dT dI).d ([] : List Int)))] t24.1).bind fun t34 => some (t34, t24.2)) else (if (decide (a__law_k ∈ ([1, 3] : List Int))) = true then (if (decide (t1.1 = 1)) = true then ((m_law_take (t1.2) (2)).bind fun t46 => some ((Th.d (PyData.int (t46.1))), t46.2)) else (gd (modOk 2) <| some ((Th.d (PyData.bool ((decide ((t1.1 % 2) = 0))))), t1.2))) else (if (decide (t1.1 = 1)) = true then ((m_law_take (t1.2) (23)).bind fun t60 => some ((Th.d (PyData.int ((t60.1 - 1)))), t60.2)) else (if (decide (t1.1 = 2)) = true then (some ((Th.d (PyData.none)), t1.2)) else ((m_law_take (t1.2) (9)).bind fun t73 => some ((Th.d (PyData.int ((1 + t73.1)))), t73.2))))))
def m_is_allowed_rules (a_field : Str) (a_value : Th) : Option Bool :=
  (if (decide (a_field ∈ [("alone" : Str), ("quiet" : Str)])) = true then (some ((thIsB a_value true) || (thIsB a_value false))) else (if (thNon a_value) = true then (some true) else (if ((!(thIs "int" a_value)) || (thIs "bool" a_value)) = true then (some false) else (if (decide (a_field = ("most" : Str))) = true then ((thI a_value).bind fun t11 => some (decide (1 ≤ t11) && decide (t11 ≤ 20))) else ((thI a_value).bind fun t14 => some (decide (0 ≤ t14) && decide (t14 ≤ 9)))))))
def m_check_settings_b1 (a_settings : (List (Str × Th))) (x11 : Str) (s13 : Unit) : Option Unit :=
  ((if ((getSd x11 a_settings).isSome) = true then ((getSd x11 a_settings).bind fun t42 => (m_is_allowed_rules (x11) (t42)).bind fun t46 => some ((!t46))) else some (false)).bind fun t36 => if t36 = true then (none) else (some ()))
def m_check_settings (a_settings : (List (Str × Th))) : Option Unit :=
  ((loopS (m_check_settings_b1 a_settings) (["most", "alone", "tags", "quiet"] : List Str) ()).bind fun t6 => some ())
def m_check_settings_vx_b1 (a_settings : (List (Str × Th))) (x11 : Str) (s13 : Unit) : Option (Ctl Unit (Except Str Unit)) :=
  ((if ((getSd x11 a_settings).isSome) = true then ((getSd x11 a_settings).bind fun t42 => (m_is_allowed_rules (x11) (t42)).bind fun t46 => some ((!t46))) else some (false)).bind fun t36 => if t36 = true then (some (.rt (.error (x11)))) else (some (.nx ())))
def m_check_settings_vx (a_settings : (List (Str × Th))) : Option (Except Str Unit) :=
  ((loopC (m_check_settings_vx_b1 a_settings) (["most", "alone", "tags", "quiet"] : List Str) ()).bind fun t6 => aft t6 fun s65 => some (.ok ()))
def m_Rule___init__ (a_begins : (List Pat)) (a_ends : (List Pat)) (a_most : Th) (a_alone : Th) (a_tags : Th) (a_quiet : Th) : Option ((List Pat) × (List Pat) × (List (Str × Th))) :=
  (if (decide (6 < (((a_begins).length : Int) + ((a_ends).length : Int)))) = true then (none) else ((m_check_settings ([(("most" : Str), a_most), (("alone" : Str), a_alone), (("tags" : Str), a_tags), (("quiet" : Str), a_quiet)])).bind fun t20 => some (a_begins, a_ends, [(("most" : Str), a_most), (("alone" : Str), a_alone), (("tags" : Str), a_tags), (("quiet" : Str), a_quiet)])))
def m_Rule___init___vx (a_begins : (List Pat)) (a_ends : (List Pat)) (a_most : Th) (a_alone : Th) (a_tags : Th) (a_quiet : Th) : Option (Except Str ((List Pat) × (List Pat) × (List (Str × Th)))) :=
  (if (decide (6 < (((a_begins).length : Int) + ((a_ends).length : Int)))) = true then (some (.error (("marks" : Str)))) else ((m_check_settings_vx ([(("most" : Str), a_most), (("alone" : Str), a_alone), (("tags" : Str), a_tags), (("quiet" : Str), a_quiet)])).bind fun t20 => exB t20 fun t22 => some (.ok (a_begins, a_ends, [(("most" : Str), a_most), (("alone" : Str), a_alone), (("tags" : Str), a_tags), (("quiet" : Str), a_quiet)]))))
def m_law_refused (a__law_begins : (List Pat)) (a__law_ends : (List Pat)) (a__law_values : (List Th)) : Option (Option Str) :=
  ((atI a__law_values 0).bind fun t1 => (atI a__law_values 1).bind fun t5 => (atI a__law_values 2).bind fun t9 => (atI a__law_values 3).bind fun t13 => (m_Rule___init___vx (a__law_begins) (a__law_ends) (t1) (t5) (t9) (t13)).bind fun t17 => exT t17 (fun (x26 : Str) => (some (some x26))) fun t19 => some none)
def m_law_all_signs  : Option Str :=
  (some (" #-.0123456789:>ABCDEFGHIJKLMNOPQRSTUVWXYZabcdefghijklmnopqrstuvwxyz" : Str))
def m_law_text_b1 (t1 : (Int × (Int × Int))) (x28 : Int) (s30 : ((Int × Int) × Str)) : Option ((Int × Int) × Str) :=
  (if (decide (t1.1 = 0)) = true then ((m_law_all_signs).bind fun t43 => (m_law_take (s30.1) (68)).bind fun t51 => (ixS t43 t51.1).bind fun t61 => gd (catOk s30.2 t61) <| some (t51.2, (s30.2 ++ t61))) else ((m_law_take (s30.1) (4)).bind fun t64 => (ixS ("a1-b" : Str) t64.1).bind fun t74 => gd (catOk s30.2 t74) <| some (t64.2, (s30.2 ++ t74))))
def m_law_text (a__law_pool_here : (Int × Int)) : Option (Str × (Int × Int)) :=
  ((m_law_take (a__law_pool_here) (3)).bind fun t1 => (m_law_take (t1.2) (2)).bind fun t11 => gd (rgOk 0 (1 + t11.1)) <| (loopS (m_law_text_b1 t1) (rng 0 (1 + t11.1)) (t11.2, ("" : Str))).bind fun t22 => some (t22.2, t22.1))
def m_law_parts_b1  (x28 : Int) (s30 : ((Int × Int) × (List Str))) : Option ((Int × Int) × (List Str)) :=
  ((m_law_take (s30.1) (5)).bind fun t47 => gd (shp (dL dS) s30.2) <| gd (shp (dL dS) ([] : List Str)) <| (if (!decide (s30.2 = ([] : List Str))) = true then ((atI s30.2 (-1)).bind fun t81 => some ((!decide (t81 ∈ [("<any>" : Str), ("<digits>" : Str), ("<word>" : Str)])))) else some (false)).bind fun t75 => if ((decide (t47.1 = 0)) && (!decide (("<any>" : Str) ∈ s30.2))) = true then (gd (fits s30.2) <| some (t47.2, (s30.2 ++ [("<any>" : Str)]))) else (if (decide (t47.1 = 1)) = true then (gd (fits s30.2) <| some (t47.2, (s30.2 ++ [("<digits>" : Str)]))) else (if ((decide (t47.1 = 2)) || t75) = true then (gd (fits s30.2) <| some (t47.2, (s30.2 ++ [("<word>" : Str)]))) else ((m_law_text (t47.2)).bind fun t118 => gd (fits s30.2) <| some (t118.2, (s30.2 ++ [t118.1]))))))
def m_law_parts (a__law_pool_here : (Int × Int)) : Option ((List Str) × (Int × Int)) :=
  ((m_law_take (a__law_pool_here) (3)).bind fun t10 => gd (rgOk 0 (1 + t10.1)) <| (loopS m_law_parts_b1 (rng 0 (1 + t10.1)) (t10.2, ([] : List Str))).bind fun t21 => some (t21.2, t21.1))
def m_Form___str__ (a_self : (List Str)) : Option Str :=
  (gd (joinOk ("" : Str) a_self) <| some (Txt.join ("" : Str) a_self))
def m_Rule_begins (a_self : (List Pat × List Pat × List (Str × Th))) : Option (List Pat) :=
  (some a_self.1)
def m_Rule_begins_vo (a_self : ((List Pat) × (List Pat) × (List (Str × Th)))) : Option (List Pat) :=
  (some a_self.1)
def m_Rule_ends (a_self : (List Pat × List Pat × List (Str × Th))) : Option (List Pat) :=
  (some a_self.2.1)
def m_Rule_ends_vo (a_self : ((List Pat) × (List Pat) × (List (Str × Th)))) : Option (List Pat) :=
  (some a_self.2.1)
def m_Rule_change_vx (ks : List Str) (a_self : ((List Pat) × (List Pat) × (List (Str × Th)))) (ts : List Th) : Option (Except Str (Unit × List (Str × Th))) :=
  if (ks.all fun k => decide (k ∈ (["most", "alone", "tags", "quiet"] : List Str))) = true then (m_check_settings_vx (ks.zip ts)).bind fun t1 => exB t1 fun _ => gd (decide (a_self.2.2.length ≤ 100)) <| some (.ok ((), mergeSd (mergeSd [] a_self.2.2) (ks.zip ts))) else some (.error ("name" : Str))
def m_Rule_most (a_self : (List Pat × List Pat × List (Str × Th))) : Option Th :=
  ((getSd ("most" : Str) a_self.2.2).bind fun t3 => some t3)
def m_Rule_most_vo (a_self : ((List Pat) × (List Pat) × (List (Str × Th)))) : Option Th :=
  ((getSd ("most" : Str) a_self.2.2).bind fun t1 => some t1)
def m_Rule_most_vs (a_self : ((List Pat) × (List Pat) × (List (Str × Th)))) (a_value : Th) : Option (Except Str (Unit × (List (Str × Th)))) := m_Rule_change_vx ["most"] a_self [a_value]
def m_Rule_alone (a_self : (List Pat × List Pat × List (Str × Th))) : Option Th :=
  ((getSd ("alone" : Str) a_self.2.2).bind fun t3 => some t3)
def m_Rule_alone_vo (a_self : ((List Pat) × (List Pat) × (List (Str × Th)))) : Option Th :=
  ((getSd ("alone" : Str) a_self.2.2).bind fun t1 => some t1)
def m_Rule_alone_vs (a_self : ((List Pat) × (List Pat) × (List (Str × Th)))) (a_value : Th) : Option (Except Str (Unit × (List (Str × Th)))) := m_Rule_change_vx ["alone"] a_self [a_value]
def m_Rule_tags (a_self : (List Pat × List Pat × List (Str × Th))) : Option Th :=
  ((getSd ("tags" : Str) a_self.2.2).bind fun t3 => some t3)
def m_Rule_tags_vo (a_self : ((List Pat) × (List Pat) × (List (Str × Th)))) : Option Th :=
  ((getSd ("tags" : Str) a_self.2.2).bind fun t1 => some t1)
def m_Rule_tags_vs (a_self : ((List Pat) × (List Pat) × (List (Str × Th)))) (a_value : Th) : Option (Except Str (Unit × (List (Str × Th)))) := m_Rule_change_vx ["tags"] a_self [a_value]
def m_Rule_quiet (a_self : (List Pat × List Pat × List (Str × Th))) : Option Th :=
  ((getSd ("quiet" : Str) a_self.2.2).bind fun t3 => some t3)
def m_Rule_quiet_vo (a_self : ((List Pat) × (List Pat) × (List (Str × Th)))) : Option Th :=
  ((getSd ("quiet" : Str) a_self.2.2).bind fun t1 => some t1)
def m_Rule_quiet_vs (a_self : ((List Pat) × (List Pat) × (List (Str × Th)))) (a_value : Th) : Option (Except Str (Unit × (List (Str × Th)))) := m_Rule_change_vx ["quiet"] a_self [a_value]
def m_law_same (a__law_one : Th) (a__law_other : Th) : Option Bool :=
  ((if (decide ((thIs "bool" a__law_one) = (thIs "bool" a__law_other))) = true then ((thEq a__law_one a__law_other).bind fun t9 => some (t9)) else some (false)).bind fun t3 => some t3)
def m_law_tells_b1 (a__law_values : (List Th)) (t1 : Th) (t9 : Th) (t17 : Th) (t25 : Th) (x45 : Int) (s47 : Unit) : Option (Ctl Unit Bool) :=
  ((atI [t1, t9, t17, t25] x45).bind fun t59 => (atI a__law_values x45).bind fun t63 => (m_law_same (t59) (t63)).bind fun t67 => (if (!t67) = true then some (true) else ((atI [t1, t9, t17, t25] x45).bind fun t89 => (atI a__law_values x45).bind fun t93 => some ((!decide ((thNon t89) = (thNon t93)))))).bind fun t83 => if t83 = true then (some (.rt false)) else (some (.nx ())))
def m_law_tells_b2  (x143 : Pat) (s145 : Unit) : Option (Option Str × Unit) :=
  ((m_pat___str__ (x143)).bind fun t162 => some (some t162, ()))
def m_law_tells_b3  (x219 : Pat) (s221 : Unit) : Option (Option Str × Unit) :=
  ((m_pat___str__ (x219)).bind fun t238 => some (some t238, ()))
def m_law_tells (a__law_rule : ((List Pat) × (List Pat) × (List (Str × Th)))) (a__law_values : (List Th)) (a__law_begins : (List Str)) (a__law_ends : (List Str)) : Option Bool :=
  ((m_Rule_most_vo ((a__law_rule.1, a__law_rule.2.1, a__law_rule.2.2))).bind fun t1 => (m_Rule_alone_vo ((a__law_rule.1, a__law_rule.2.1, a__law_rule.2.2))).bind fun t9 => (m_Rule_tags_vo ((a__law_rule.1, a__law_rule.2.1, a__law_rule.2.2))).bind fun t17 => (m_Rule_quiet_vo ((a__law_rule.1, a__law_rule.2.1, a__law_rule.2.2))).bind fun t25 => gd (rgOk 0 4) <| (loopC (m_law_tells_b1 a__law_values t1 t9 t17 t25) (rng 0 4) ()).bind fun t40 => aft t40 fun s108 => (m_Rule_begins_vo ((a__law_rule.1, a__law_rule.2.1, a__law_rule.2.2))).bind fun t115 => gd (fitsE t115) <| (comp m_law_tells_b2 t115 ()).bind fun t139 => gd (shp (dL dS) t139.1) <| gd (shp (dL dS) a__law_begins) <| if (!decide (t139.1 = a__law_begins)) = true then (some false) else ((m_Rule_ends_vo ((a__law_rule.1, a__law_rule.2.1, a__law_rule.2.2))).bind fun t191 => gd (fitsE t191) <| (comp m_law_tells_b3 t191 ()).bind fun t215 => gd (shp (dL dS) t215.1) <| gd (shp (dL dS) a__law_ends) <| some (decide (t215.1 = a__law_ends))))
def m_assign_vx (a_rule : ((List Pat) × (List Pat) × (List (Str × Th)))) (a_field : Str) (a_value : Th) : Option (Except Str (Unit × (List (Str × Th)))) :=
  (if (decide (a_field = ("most" : Str))) = true then ((m_Rule_most_vs ((a_rule.1, a_rule.2.1, a_rule.2.2)) (a_value)).bind fun t2 => exB t2 fun t4 => some (.ok ((), (t4.2)))) else (if (decide (a_field = ("alone" : Str))) = true then ((m_Rule_alone_vs ((a_rule.1, a_rule.2.1, a_rule.2.2)) (a_value)).bind fun t28 => exB t28 fun t30 => some (.ok ((), (t30.2)))) else (if (decide (a_field = ("tags" : Str))) = true then ((m_Rule_tags_vs ((a_rule.1, a_rule.2.1, a_rule.2.2)) (a_value)).bind fun t54 => exB t54 fun t56 => some (.ok ((), (t56.2)))) else (if (decide (a_field = ("quiet" : Str))) = true then ((m_Rule_quiet_vs ((a_rule.1, a_rule.2.1, a_rule.2.2)) (a_value)).bind fun t80 => exB t80 fun t82 => some (.ok ((), (t82.2)))) else (some (.error (("name" : Str))))))))
def m_law_assigned (a__law_rule : ((List Pat) × (List Pat) × (List (Str × Th)))) (a__law_field : Str) (a__law_value_here : Th) : Option ((Option Str) × (List (Str × Th))) :=
  ((m_assign_vx ((a__law_rule.1, a__law_rule.2.1, a__law_rule.2.2)) (a__law_field) (a__law_value_here)).bind fun t1 => exT t1 (fun (x13 : Str) => (some ((some x13), (a__law_rule.2.2)))) fun t3 => some (none, (t3.2)))
def m_law_assigns_b1 (s11 : ((Int × Int) × (List (Str × Th)) × (List Th))) (t33 : (Int × (Int × Int))) (t43 : (Th × (Int × Int))) (x122 : Int) (s124 : Unit) : Option (Option Th × Unit) :=
  ((if (decide (x122 = t33.1)) = true then (some (t43.1)) else ((atI s11.2.2 x122).bind fun t153 => some (t153))).bind fun t141 => some (some t141, ()))
def m_law_assigns_b2 (a__law_rule : ((List Pat) × (List Pat) × (List (Str × Th)))) (a__law_begins : (List Str)) (a__law_ends : (List Str)) (x9 : Int) (s11 : ((Int × Int) × (List (Str × Th)) × (List Th))) : Option (Ctl ((Int × Int) × (List (Str × Th)) × (List Th)) (((Option (List Th)) × (List (Str × Th))) × (Int × Int))) :=
  ((m_law_take (s11.1) (4)).bind fun t33 => (m_law_value (t33.2) (t33.1)).bind fun t43 => gd (repLOk [t43.1] 4) <| (m_law_due ((repL [t43.1] 4)) (([t33.1] : List Int))).bind fun t72 => (m_law_fields).bind fun t80 => (atI t80 t33.1).bind fun t88 => (m_law_assigned ((a__law_rule.1, a__law_rule.2.1, s11.2.1)) (t88) (t43.1)).bind fun t92 => gd (shp (dO dS) t92.1) <| gd (shp (dO dS) t72) <| if (!decide (t92.1 = t72)) = true then (some (.rt ((none, (t92.2)), t43.2))) else (((if ((t72).isNone) = true then (gd (rgOk 0 4) <| gd (fitsE (rng 0 4)) <| (comp (m_law_assigns_b1 s11 t33 t43) (rng 0 4) ()).bind fun t118 => some (t118.1)) else (some (s11.2.2)))).bind fun (t112 : (List Th)) => (m_law_take (t43.2) (6)).bind fun t197 => (atI [("" : Str), ("Most" : Str), ("marks" : Str), ("begins" : Str), ("change" : Str), ("name" : Str)] t197.1).bind fun t207 => (m_law_assigned ((a__law_rule.1, a__law_rule.2.1, t92.2)) (t207) (t43.1)).bind fun t211 => gd (shp (dO dS) t211.1) <| gd (shp (dO dS) (some ("name" : Str))) <| (if (!decide (t211.1 = (some ("name" : Str)))) = true then some (true) else ((m_law_tells ((a__law_rule.1, a__law_rule.2.1, t211.2)) (t112) (a__law_begins) (a__law_ends)).bind fun t240 => some ((!t240)))).bind fun t234 => if t234 = true then (some (.rt ((none, (t211.2)), t197.2))) else (some (.nx (t197.2, (t211.2), t112)))))
def m_law_assigns (a__law_pool_here : (Int × Int)) (a__law_rule : ((List Pat) × (List Pat) × (List (Str × Th)))) (a__law_values : (List Th)) (a__law_begins : (List Str)) (a__law_ends : (List Str)) : Option (((Option (List Th)) × (List (Str × Th))) × (Int × Int)) :=
  (gd (rgOk 0 4) <| (loopC (m_law_assigns_b2 a__law_rule a__law_begins a__law_ends) (rng 0 4) (a__law_pool_here, (a__law_rule.2.2), a__law_values)).bind fun t2 => aft t2 fun s262 => some (((some s262.2.2), (s262.2.1)), s262.1))
def m_law_change (a__law_rule : ((List Pat) × (List Pat) × (List (Str × Th)))) (a__law_values : (List Th)) (a__law_asked : (List Int)) : Option ((Option Str) × (List (Str × Th))) :=
  (gd (shp (dL dI) a__law_asked) <| gd (shp (dL dI) ([0] : List Int)) <| if (decide (a__law_asked = ([0] : List Int))) = true then ((atI a__law_values 0).bind fun t10 => (m_Rule_change_vx (["most"] : List Str) ((a__law_rule.1, a__law_rule.2.1, a__law_rule.2.2)) ([t10] : List Th)).bind fun t14 => exT t14 (fun (x26 : Str) => (some ((some x26), (a__law_rule.2.2)))) fun t16 => some (none, (t16.2))) else (gd (shp (dL dI) a__law_asked) <| gd (shp (dL dI) ([1] : List Int)) <| if (decide (a__law_asked = ([1] : List Int))) = true then ((atI a__law_values 1).bind fun t54 => (m_Rule_change_vx (["alone"] : List Str) ((a__law_rule.1, a__law_rule.2.1, a__law_rule.2.2)) ([t54] : List Th)).bind fun t58 => exT t58 (fun (x70 : Str) => (some ((some x70), (a__law_rule.2.2)))) fun t60 => some (none, (t60.2))) else (gd (shp (dL dI) a__law_asked) <| gd (shp (dL dI) ([2] : List Int)) <| if (decide (a__law_asked = ([2] : List Int))) = true then ((atI a__law_values 2).bind fun t98 => (m_Rule_change_vx (["tags"] : List Str) ((a__law_rule.1, a__law_rule.2.1, a__law_rule.2.2)) ([t98] : List Th)).bind fun t102 => exT t102 (fun (x114 : Str) => (some ((some x114), (a__law_rule.2.2)))) fun t104 => some (none, (t104.2))) else (gd (shp (dL dI) a__law_asked) <| gd (shp (dL dI) ([3] : List Int)) <| if (decide (a__law_asked = ([3] : List Int))) = true then ((atI a__law_values 3).bind fun t142 => (m_Rule_change_vx (["quiet"] : List Str) ((a__law_rule.1, a__law_rule.2.1, a__law_rule.2.2)) ([t142] : List Th)).bind fun t146 => exT t146 (fun (x158 : Str) => (some ((some x158), (a__law_rule.2.2)))) fun t148 => some (none, (t148.2))) else (gd (shp (dL dI) a__law_asked) <| gd (shp (dL dI) ([0, 2] : List Int)) <| if (decide (a__law_asked = ([0, 2] : List Int))) = true then ((atI a__law_values 2).bind fun t186 => (atI a__law_values 0).bind fun t190 => (m_Rule_change_vx (["tags", "most"] : List Str) ((a__law_rule.1, a__law_rule.2.1, a__law_rule.2.2)) ([t186, t190] : List Th)).bind fun t194 => exT t194 (fun (x206 : Str) => (some ((some x206), (a__law_rule.2.2)))) fun t196 => some (none, (t196.2))) else (gd (shp (dL dI) a__law_asked) <| gd (shp (dL dI) ([1, 3] : List Int)) <| if (decide (a__law_asked = ([1, 3] : List Int))) = true then ((atI a__law_values 3).bind fun t234 => (atI a__law_values 1).bind fun t238 => (m_Rule_change_vx (["quiet", "alone"] : List Str) ((a__law_rule.1, a__law_rule.2.1, a__law_rule.2.2)) ([t234, t238] : List Th)).bind fun t242 => exT t242 (fun (x254 : Str) => (some ((some x254), (a__law_rule.2.2)))) fun t244 => some (none, (t244.2))) else (gd (shp (dL dI) a__law_asked) <| gd (shp (dL dI) ([] : List Int)) <| if (decide (a__law_asked = ([] : List Int))) = true then ((m_Rule_change_vx ([] : List Str) ((a__law_rule.1, a__law_rule.2.1, a__law_rule.2.2)) ([] : List Th)).bind fun t282 => exT t282 (fun (x294 : Str) => (some ((some x294), (a__law_rule.2.2)))) fun t284 => some (none, (t284.2))) else ((atI a__law_values 3).bind fun t313 => (atI a__law_values 2).bind fun t317 => (atI a__law_values 1).bind fun t321 => (atI a__law_values 0).bind fun t325 => (m_Rule_change_vx (["quiet", "tags", "alone", "most"] : List Str) ((a__law_rule.1, a__law_rule.2.1, a__law_rule.2.2)) ([t313, t317, t321, t325] : List Th)).bind fun t329 => exT t329 (fun (x341 : Str) => (some ((some x341), (a__law_rule.2.2)))) fun t331 => some (none, (t331.2))))))))))
def m_law_strange (a__law_rule : ((List Pat) × (List Pat) × (List (Str × Th)))) (a__law_value_here : Th) : Option (Bool × (List (Str × Th))) :=
  ((m_Rule_change_vx (["most", "speed"] : List Str) ((a__law_rule.1, a__law_rule.2.1, a__law_rule.2.2)) ([a__law_value_here, (Th.d (PyData.int (2)))] : List Th)).bind fun t1 => exT t1 (fun (x13 : Str) => (some ((decide (x13 = ("name" : Str))), (a__law_rule.2.2)))) fun t3 => some (false, (t3.2)))
def m_law_changes_b1  (x121 : Int) (s123 : (Int × Int)) : Option (Option Th × (Int × Int)) :=
  ((m_law_value (s123) (x121)).bind fun t141 => some (some t141.1, (t141.2)))
def m_law_changes_b2 (s26 : ((Int × Int) × (List (Str × Th)) × (Option (List Th)))) (t111 : (List Int)) (t117 : (List Th × (Int × Int))) (x208 : Int) (s210 : Unit) : Option (Option Th × Unit) :=
  ((if (decide (x208 ∈ t111)) = true then ((atI t117.1 x208).bind fun t234 => some (t234)) else ((s26.2.2).bind fun t243 => (atI t243 x208).bind fun t246 => some (t246))).bind fun t227 => some (some t227, ()))
def m_law_changes_b3 (a__law_rule : ((List Pat) × (List Pat) × (List (Str × Th)))) (a__law_begins : (List Str)) (a__law_ends : (List Str)) (x24 : Int) (s26 : ((Int × Int) × (List (Str × Th)) × (Option (List Th)))) : Option (Ctl ((Int × Int) × (List (Str × Th)) × (Option (List Th))) ((Bool × (List (Str × Th))) × (Int × Int))) :=
  ((m_law_take (s26.1) (8)).bind fun t101 => (atI [([0] : List Int), ([1] : List Int), ([2] : List Int), ([3] : List Int), ([0, 2] : List Int), ([1, 3] : List Int), ([] : List Int), ([0, 1, 2, 3] : List Int)] t101.1).bind fun t111 => gd (rgOk 0 4) <| gd (fitsE (rng 0 4)) <| (comp m_law_changes_b1 (rng 0 4) (t101.2)).bind fun t117 => (m_law_due (t117.1) (t111)).bind fun t171 => (m_law_change ((a__law_rule.1, a__law_rule.2.1, s26.2.1)) (t117.1) (t111)).bind fun t179 => gd (shp (dO dS) t179.1) <| gd (shp (dO dS) t171) <| if (!decide (t179.1 = t171)) = true then (some (.rt ((false, (t179.2)), t117.2))) else (((if ((t171).isNone) = true then (gd (rgOk 0 4) <| gd (fitsE (rng 0 4)) <| (comp (m_law_changes_b2 s26 t111 t117) (rng 0 4) ()).bind fun t204 => some ((some t204.1))) else (some (s26.2.2)))).bind fun (t198 : (Option (List Th))) => (atI t117.1 0).bind fun t284 => (m_law_strange ((a__law_rule.1, a__law_rule.2.1, t179.2)) (t284)).bind fun t288 => (if (!t288.1) = true then some (true) else ((t198).bind fun t317 => (m_law_tells ((a__law_rule.1, a__law_rule.2.1, t288.2)) (t317) (a__law_begins) (a__law_ends)).bind fun t320 => some ((!t320)))).bind fun t311 => if t311 = true then (some (.rt ((false, (t288.2)), t117.2))) else (some (.nx (t117.2, (t288.2), t198)))))
def m_law_changes (a__law_pool_here : (Int × Int)) (a__law_rule : ((List Pat) × (List Pat) × (List (Str × Th)))) (a__law_values : (List Th)) (a__law_begins : (List Str)) (a__law_ends : (List Str)) : Option ((Bool × (List (Str × Th))) × (Int × Int)) :=
  ((m_law_assigns (a__law_pool_here) ((a__law_rule.1, a__law_rule.2.1, a__law_rule.2.2)) (a__law_values) (a__law_begins) (a__law_ends)).bind fun t1 => if ((t1.1.1).isNone) = true then (some ((false, (t1.1.2)), t1.2)) else (gd (rgOk 0 6) <| (loopC (m_law_changes_b3 a__law_rule a__law_begins a__law_ends) (rng 0 6) (t1.2, (t1.1.2), t1.1.1)).bind fun t17 => aft t17 fun s341 => some ((true, (s341.2.1)), s341.1)))
def m_law_rules_b1  (x10 : Pat) (s12 : Unit) : Option (Option Str × Unit) :=
  ((m_pat___str__ (x10)).bind fun t29 => some (some t29, ()))
def m_law_rules_b2  (x64 : Pat) (s66 : Unit) : Option (Option Str × Unit) :=
  ((m_pat___str__ (x64)).bind fun t83 => some (some t83, ()))
def m_law_rules (a__law_pool_here : (Int × Int)) (a__law_begins : (List Pat)) (a__law_ends : (List Pat)) (a__law_values : (List Th)) : Option (Bool × (Int × Int)) :=
  (gd (fitsE a__law_begins) <| (comp m_law_rules_b1 a__law_begins ()).bind fun t6 => gd (fitsE a__law_ends) <| (comp m_law_rules_b2 a__law_ends ()).bind fun t60 => (atI a__law_values 0).bind fun t146 => (atI a__law_values 1).bind fun t150 => (atI a__law_values 2).bind fun t154 => (atI a__law_values 3).bind fun t158 => (m_Rule___init__ (a__law_begins) (a__law_ends) (t146) (t150) (t154) (t158)).bind fun t162 => gd ((t162).2.2.all fun e => thNoL e.2) <| (m_Rule___init__ (a__law_begins) (a__law_ends) ((Th.d .none)) ((Th.d (.bool true))) ((Th.d .none)) ((Th.d (.bool false)))).bind fun t199 => (m_Form___init__ [("x" : Str)]).bind fun t224 => gd (fits a__law_begins) <| (m_Rule_begins_vo ((t162.1, t162.2.1, t162.2.2))).bind fun t244 => (m_Form___init__ [("y" : Str)]).bind fun t263 => gd (fits t244) <| (m_Rule_ends_vo ((t162.1, t162.2.1, t162.2.2))).bind fun t278 => (m_Form___init__ [("y" : Str)]).bind fun t298 => gd (fits t278) <| (atI [t6.1, t60.1] 0).bind fun t313 => (atI [t6.1, t60.1] 1).bind fun t317 => (m_law_tells ((t162.1, t162.2.1, t162.2.2)) (a__law_values) (t313) (t317)).bind fun t321 => if (!t321) = true then (some (false, a__law_pool_here)) else ((atI [t6.1, t60.1] 0).bind fun t330 => (atI [t6.1, t60.1] 1).bind fun t334 => (m_law_changes (a__law_pool_here) ((t162.1, t162.2.1, t162.2.2)) (a__law_values) (t330) (t334)).bind fun t338 => if (!t338.1.1) = true then (some (false, t338.2)) else ((atI [t6.1, t60.1] 0).bind fun t359 => (atI [t6.1, t60.1] 1).bind fun t363 => (m_law_tells ((t199.1, t199.2.1, t199.2.2)) ([(Th.d (PyData.none)), (Th.d (PyData.bool (true))), (Th.d (PyData.none)), (Th.d (PyData.bool (false)))]) (t359) (t363)).bind fun t367 => some (t367, t338.2))))
def m_law_below (a__law_begins : (List Pat)) (a__law_ends : (List Pat)) (a__law_values : (List Th)) : Option Bool :=
  ((atI a__law_values 0).bind fun t1 => (atI a__law_values 1).bind fun t5 => (atI a__law_values 2).bind fun t9 => (atI a__law_values 3).bind fun t13 => (m_Rule___init___vx (a__law_begins) (a__law_ends) (t1) (t5) (t9) (t13)).bind fun t17 => exT t17 (fun (x26 : Str) => (some true)) fun t19 => some false)
def m_law_b1  (x53 : Int) (s55 : (Int × Int)) : Option (Option Pat × (Int × Int)) :=
  ((m_law_parts (s55)).bind fun t73 => (m_law_form (t73.1)).bind fun t83 => some (some (Pat.form t83), (t73.2)))
def m_law_b2  (x127 : Int) (s129 : (Int × Int)) : Option (Option Pat × (Int × Int)) :=
  ((m_law_parts (s129)).bind fun t147 => (m_law_form (t147.1)).bind fun t157 => some (some (Pat.form t157), (t147.2)))
def m_law_b3  (x191 : Int) (s193 : (Int × Int)) : Option (Option Th × (Int × Int)) :=
  ((m_law_value (s193) (x191)).bind fun t211 => some (some t211.1, (t211.2)))
def m_law_b4 (a__law_script : (List Int)) (x7 : Int) (s9 : Unit) : Option (Ctl Unit Bool) :=
  ((m_law_pool (a__law_script) (x7)).bind fun t26 => (m_law_take (t26) (4)).bind fun t37 => gd (rgOk 0 t37.1) <| gd (fitsE (rng 0 t37.1)) <| (comp m_law_b1 (rng 0 t37.1) (t37.2)).bind fun t49 => (m_law_take (t49.2) (5)).bind fun t111 => gd (rgOk 0 t111.1) <| gd (fitsE (rng 0 t111.1)) <| (comp m_law_b2 (rng 0 t111.1) (t111.2)).bind fun t123 => gd (rgOk 0 4) <| gd (fitsE (rng 0 4)) <| (comp m_law_b3 (rng 0 4) (t123.2)).bind fun t187 => (m_law_due (t187.1) (([0, 1, 2, 3] : List Int))).bind fun t246 => ((if (decide (6 < (((t49.1).length : Int) + ((t123.1).length : Int)))) = true then (some ((some ("marks" : Str)))) else (some (t246)))).bind fun (t254 : (Option Str)) => (m_law_refused (t49.1) (t123.1) (t187.1)).bind fun t279 => gd (shp (dO dS) t279) <| gd (shp (dO dS) t254) <| if (!decide (t279 = t254)) = true then (some (.rt false)) else ((if ((t254).isNone) = true then ((m_law_rules (t187.2) (t49.1) (t123.1) (t187.1)).bind fun t309 => some ((!t309.1), t309.2)) else some (false, t187.2)).bind fun t302 => if t302.1 = true then (some (.rt false)) else ((if (!(t254).isNone) = true then ((m_law_below (t49.1) (t123.1) (t187.1)).bind fun t369 => some ((!t369))) else some (false)).bind fun t351 => if t351 = true then (some (.rt false)) else (some (.nx ())))))
def m_law (a__law_script : (List Int)) : Option Bool :=
  (gd (rgOk 0 (maxI 1 (minI 5 ((a__law_script).length : Int)))) <| (loopC (m_law_b4 a__law_script) (rng 0 (maxI 1 (minI 5 ((a__law_script).length : Int)))) ()).bind fun t2 => aft t2 fun s388 => some true)
theorem is_NoRule : PySem.OwnE.IS "NoRule.__init__" (defArgs si_NoRule) (defBody si_NoRule) (defScope si_NoRule) ["field"] where
  bd := ⟨_, _, _, _, _, _, _, _, _, rfl, .cons (.nil), fun _ _ _ _ => ⟨⟨_, rfl⟩, rfl, rfl⟩⟩
  bind := fun _ _ _ _ _ _ _ us hl => match us, hl with | [_, _], _ => rfl
  hd := ⟨_, rfl, rfl⟩
  nd := by decide +kernel
  loc := by decide +kernel
  cell := by decide +kernel
  co := rfl
  gen := rfl
  k := rfl
  hks := rfl
  hkc := rfl
  few := by decide
  some_ := by decide
structure Tx (P : Program) (K : PySem.W.Frag) (mg : Str → Option Value) : Prop where
  F_law_pool : FnD' K ("_law_pool", none) "_law_pool" "_law_pool" s_law_pool
  g_law_pool : mg "_law_pool" = some (.ref (He.ga K "_law_pool"))
  F_law_good : FnD' K ("_law_good", none) "_law_good" "_law_good" s_law_good
  g_law_good : mg "_law_good" = some (.ref (He.ga K "_law_good"))
  F_law_fields : FnD' K ("_law_fields", none) "_law_fields" "_law_fields" s_law_fields
  g_law_fields : mg "_law_fields" = some (.ref (He.ga K "_law_fields"))
  F_law_due : FnD' K ("_law_due", none) "_law_due" "_law_due" s_law_due
  g_law_due : mg "_law_due" = some (.ref (He.ga K "_law_due"))
  F_is_line : FnD' K ("is_line", none) "is_line" "is_line" s_is_line
  g_is_line : mg "is_line" = some (.ref (He.ga K "is_line"))
  F_is_allowed : FnD' K ("is_allowed_patterns", none) "is_allowed" "is_allowed" s_is_allowed
  g_is_allowed : mg "is_allowed_patterns" = some (.ref (He.ga K "is_allowed_patterns"))
  F_Form___init__ : FnD' K ("Form", some "__init__") "__init__" "Form.__init__" s_Form___init__
  F_law_form : FnD' K ("_law_form", none) "_law_form" "_law_form" s_law_form
  g_law_form : mg "_law_form" = some (.ref (He.ga K "_law_form"))
  F_law_take : FnD' K ("_law_take", none) "_law_take" "_law_take" s_law_take
  g_law_take : mg "_law_take" = some (.ref (He.ga K "_law_take"))
  F_law_value : FnD' K ("_law_value", none) "_law_value" "_law_value" s_law_value
  g_law_value : mg "_law_value" = some (.ref (He.ga K "_law_value"))
  F_is_allowed_rules : FnD' K ("is_allowed_rules", none) "is_allowed" "is_allowed" s_is_allowed_rules
  g_is_allowed_rules : mg "is_allowed_rules" = some (.ref (He.ga K "is_allowed_rules"))
  F_check_settings : FnD' K ("check_settings", none) "check_settings" "check_settings" s_check_settings
  g_check_settings : mg "check_settings" = some (.ref (He.ga K "check_settings"))
  F_Rule___init__ : FunD K "__init__" "Rule.__init__" (defArgs s_Rule___init__) (defBody s_Rule___init__) (defScope s_Rule___init__) [] [("most", V.non), ("alone", V.bl true), ("tags", V.non), ("quiet", V.bl false)] (He.fAd K ("Rule", some "__init__")) (fdOf K ("Rule", some "__init__"))
  F_law_refused : FnD' K ("_law_refused", none) "_law_refused" "_law_refused" s_law_refused
  g_law_refused : mg "_law_refused" = some (.ref (He.ga K "_law_refused"))
  F_law_all_signs : FnD' K ("_law_all_signs", none) "_law_all_signs" "_law_all_signs" s_law_all_signs
  g_law_all_signs : mg "_law_all_signs" = some (.ref (He.ga K "_law_all_signs"))
  F_law_text : FnD' K ("_law_text", none) "_law_text" "_law_text" s_law_text
  g_law_text : mg "_law_text" = some (.ref (He.ga K "_law_text"))
  F_law_parts : FnD' K ("_law_parts", none) "_law_parts" "_law_parts" s_law_parts
  g_law_parts : mg "_law_parts" = some (.ref (He.ga K "_law_parts"))
  F_Form___str__ : FnD' K ("Form", some "__str__") "__str__" "Form.__str__" s_Form___str__
  F_Both___str__ : FnD' K ("Both", some "__str__") "__str__" "Both.__str__" s_Both___str__
  F_Either___str__ : FnD' K ("Either", some "__str__") "__str__" "Either.__str__" s_Either___str__
  F_Rule_begins : FnD' K ("Rule", some "begins") "begins" "Rule.begins" s_Rule_begins
  F_Rule_ends : FnD' K ("Rule", some "ends") "ends" "Rule.ends" s_Rule_ends
  F_Rule_change : FnD' K ("Rule", some "change") "change" "Rule.change" s_Rule_change
  pr_Rule_most : Pr K "Rule" "most" "Rule.most" s_Rule_most
  pr_Rule_alone : Pr K "Rule" "alone" "Rule.alone" s_Rule_alone
  pr_Rule_tags : Pr K "Rule" "tags" "Rule.tags" s_Rule_tags
  pr_Rule_quiet : Pr K "Rule" "quiet" "Rule.quiet" s_Rule_quiet
  F_law_same : FnD' K ("_law_same", none) "_law_same" "_law_same" s_law_same
  g_law_same : mg "_law_same" = some (.ref (He.ga K "_law_same"))
  F_law_tells : FnD' K ("_law_tells", none) "_law_tells" "_law_tells" s_law_tells
  g_law_tells : mg "_law_tells" = some (.ref (He.ga K "_law_tells"))
  F_assign : FnD' K ("assign", none) "assign" "assign" s_assign
  g_assign : mg "assign" = some (.ref (He.ga K "assign"))
  F_law_assigned : FnD' K ("_law_assigned", none) "_law_assigned" "_law_assigned" s_law_assigned
  g_law_assigned : mg "_law_assigned" = some (.ref (He.ga K "_law_assigned"))
  F_law_assigns : FnD' K ("_law_assigns", none) "_law_assigns" "_law_assigns" s_law_assigns
  g_law_assigns : mg "_law_assigns" = some (.ref (He.ga K "_law_assigns"))
  F_law_change : FnD' K ("_law_change", none) "_law_change" "_law_change" s_law_change
  g_law_change : mg "_law_change" = some (.ref (He.ga K "_law_change"))
  F_law_strange : FnD' K ("_law_strange", none) "_law_strange" "_law_strange" s_law_strange
  g_law_strange : mg "_law_strange" = some (.ref (He.ga K "_law_strange"))
  F_law_changes : FnD' K ("_law_changes", none) "_law_changes" "_law_changes" s_law_changes
  g_law_changes : mg "_law_changes" = some (.ref (He.ga K "_law_changes"))
  F_law_rules : FnD' K ("_law_rules", none) "_law_rules" "_law_rules" s_law_rules
  g_law_rules : mg "_law_rules" = some (.ref (He.ga K "_law_rules"))
  F_law_below : FnD' K ("_law_below", none) "_law_below" "_law_below" s_law_below
  g_law_below : mg "_law_below" = some (.ref (He.ga K "_law_below"))
  F_law : FnD' K ("law", none) "law" "law" s_law
  g_law : mg "law" = some (.ref (He.ga K "law"))
  c_Form : Cls K (He.ga K "Form")
  gc_Form : mg "Form" = some (.ref (He.ga K "Form"))
  na_Form_pieces : NoAttr K (He.ga K "Form") "pieces"
  mk_Form : Mk K (He.ga K "Form") (He.fAd K ("Form", some "__init__"))
  me_Form___str__ : Meth K (He.ga K "Form") "__str__" (He.fAd K ("Form", some "__str__"))
  c_Both : Cls K (He.ga K "Both")
  gc_Both : mg "Both" = some (.ref (He.ga K "Both"))
  na_Both_left : NoAttr K (He.ga K "Both") "left"
  na_Both_right : NoAttr K (He.ga K "Both") "right"
  me_Both___str__ : Meth K (He.ga K "Both") "__str__" (He.fAd K ("Both", some "__str__"))
  c_Either : Cls K (He.ga K "Either")
  gc_Either : mg "Either" = some (.ref (He.ga K "Either"))
  na_Either_left : NoAttr K (He.ga K "Either") "left"
  na_Either_right : NoAttr K (He.ga K "Either") "right"
  me_Either___str__ : Meth K (He.ga K "Either") "__str__" (He.fAd K ("Either", some "__str__"))
  c_Rule : Cls K (He.ga K "Rule")
  gc_Rule : mg "Rule" = some (.ref (He.ga K "Rule"))
  na_Rule_openers : NoAttr K (He.ga K "Rule") "openers"
  na_Rule_closers : NoAttr K (He.ga K "Rule") "closers"
  na_Rule_settings : NoAttr K (He.ga K "Rule") "settings"
  mk_Rule : Mk K (He.ga K "Rule") (He.fAd K ("Rule", some "__init__"))
  me_Rule_begins : Meth K (He.ga K "Rule") "begins" (He.fAd K ("Rule", some "begins"))
  me_Rule_ends : Meth K (He.ga K "Rule") "ends" (He.fAd K ("Rule", some "ends"))
  me_Rule_change : Meth K (He.ga K "Rule") "change" (He.fAd K ("Rule", some "change"))
  pf : PatF K
  er_NoRule : Er P K mg "NoRule" "NoRule.__init__" (defArgs si_NoRule) (defBody si_NoRule) (defScope si_NoRule) ["field"]
  gx_GlueError : mg "GlueError" = some (.ref (He.ga K "GlueError"))
  gx_NoRule : mg "NoRule" = some (.ref (He.ga K "NoRule"))
  xm_NoRule_GlueError : PySem.W.exmOne K (.ref (He.ga K "NoRule")) (.ref (He.ga K "GlueError")) = some true
  xm_NoRule_NoRule : PySem.W.exmOne K (.ref (He.ga K "NoRule")) (.ref (He.ga K "NoRule")) = some true
  ie_NoRule : isEB K (He.ga K "NoRule") = true
  ki_NoRule_NoRule : kitB K (He.ga K "NoRule") (.ref (He.ga K "NoRule")) true = true
  ps_Rule_alone_vset : Ps K "Rule" "alone" "Rule.alone" s_Rule_alone_vset
  ps_Rule_most_vset : Ps K "Rule" "most" "Rule.most" s_Rule_most_vset
  ps_Rule_quiet_vset : Ps K "Rule" "quiet" "Rule.quiet" s_Rule_quiet_vset
  ps_Rule_tags_vset : Ps K "Rule" "tags" "Rule.tags" s_Rule_tags_vset
  k_ANY_CELL : ∃ t, mg "ANY_CELL" = some (.str "<any>" t)
  g_FIELDS : mg "FIELDS" = some (.ref (He.ga K "FIELDS"))
  q_FIELDS : ∀ F : Hp, (qT qS).r K F (.ref (He.ga K "FIELDS")) (["most", "alone", "tags", "quiet"] : List Str)
  g_FREE_CELLS : mg "FREE_CELLS" = some (.ref (He.ga K "FREE_CELLS"))
  q_FREE_CELLS : ∀ F : Hp, (qT qS).r K F (.ref (He.ga K "FREE_CELLS")) (["<digits>", "<word>", "<any>"] : List Str)
  k_MOST_PARTS : ∃ t, mg "MOST_PARTS" = some (.int 4 t)
  k_MOST_SIGNS : ∃ t, mg "MOST_SIGNS" = some (.int 4 t)
  k_SIGNS : ∃ t, mg "SIGNS" = some (.str " #-.0123456789:>ABCDEFGHIJKLMNOPQRSTUVWXYZabcdefghijklmnopqrstuvwxyz" t)
  n_bool : mg "bool" = none
  n_int : mg "int" = none
  n_isinstance : mg "isinstance" = none
  n_len : mg "len" = none
  n_list : mg "list" = none
  n_max : mg "max" = none
  n_min : mg "min" = none
  n_range : mg "range" = none
  n_str : mg "str" = none
section
variable {P : Program} {w : World} {K : PySem.W.Frag} {mg : Str → Option Value} {base : Heap}
theorem fld_Form_pieces {P0' : Addr → Prop} {F0 H0 F H : Hp} {v : V} {a : (List Str)} {Q : VK} (T : Tx P K mg) (S : Sx P0' F0 H0 F H) (r : qForm.r K F v a) (k : ∀ u, (qT qS).r K F u a → Q u H) : fdK K "pieces" Q v H := by
  obtain ⟨p, dx, u0, rfl, h2, k0⟩ := r
  exact fd_at (S.sub _ _ h2) T.c_Form T.na_Form_pieces (by rfl) (k _ k0)
theorem mt_Form___str__ {P0' : Addr → Prop} {F0 H0 F H : Hp} {v : V} {a : (List Str)} {G : V → Hp → Prop} (S : Sx P0' F0 H0 F H) (r : qForm.r K F v a) (k : G v H) : mtK (He.ga K "Form") "__str__" G v H := by
  obtain ⟨p, dx, u0, rfl, h2, k0⟩ := r
  exact mt_at (S.sub _ _ h2) (by rfl) k
theorem fld_Both_left {P0' : Addr → Prop} {F0 H0 F H : Hp} {v : V} {a : (Pat × Pat)} {Q : VK} (T : Tx P K mg) (S : Sx P0' F0 H0 F H) (r : qBoth.r K F v a) (k : ∀ u, qPat.r K F u a.1 → Q u H) : fdK K "left" Q v H := by
  obtain ⟨p, dx, u0, u1, rfl, h2, k0, k1⟩ := r
  exact fd_at (S.sub _ _ h2) T.c_Both T.na_Both_left (by rfl) (k _ k0)
theorem fld_Both_right {P0' : Addr → Prop} {F0 H0 F H : Hp} {v : V} {a : (Pat × Pat)} {Q : VK} (T : Tx P K mg) (S : Sx P0' F0 H0 F H) (r : qBoth.r K F v a) (k : ∀ u, qPat.r K F u a.2 → Q u H) : fdK K "right" Q v H := by
  obtain ⟨p, dx, u0, u1, rfl, h2, k0, k1⟩ := r
  exact fd_at (S.sub _ _ h2) T.c_Both T.na_Both_right (by rfl) (k _ k1)
theorem mt_Both___str__ {P0' : Addr → Prop} {F0 H0 F H : Hp} {v : V} {a : (Pat × Pat)} {G : V → Hp → Prop} (S : Sx P0' F0 H0 F H) (r : qBoth.r K F v a) (k : G v H) : mtK (He.ga K "Both") "__str__" G v H := by
  obtain ⟨p, dx, u0, u1, rfl, h2, k0, k1⟩ := r
  exact mt_at (S.sub _ _ h2) (by rfl) k
theorem fld_Either_left {P0' : Addr → Prop} {F0 H0 F H : Hp} {v : V} {a : (Pat × Pat)} {Q : VK} (T : Tx P K mg) (S : Sx P0' F0 H0 F H) (r : qEither.r K F v a) (k : ∀ u, qPat.r K F u a.1 → Q u H) : fdK K "left" Q v H := by
  obtain ⟨p, dx, u0, u1, rfl, h2, k0, k1⟩ := r
  exact fd_at (S.sub _ _ h2) T.c_Either T.na_Either_left (by rfl) (k _ k0)
theorem fld_Either_right {P0' : Addr → Prop} {F0 H0 F H : Hp} {v : V} {a : (Pat × Pat)} {Q : VK} (T : Tx P K mg) (S : Sx P0' F0 H0 F H) (r : qEither.r K F v a) (k : ∀ u, qPat.r K F u a.2 → Q u H) : fdK K "right" Q v H := by
  obtain ⟨p, dx, u0, u1, rfl, h2, k0, k1⟩ := r
  exact fd_at (S.sub _ _ h2) T.c_Either T.na_Either_right (by rfl) (k _ k1)
theorem mt_Either___str__ {P0' : Addr → Prop} {F0 H0 F H : Hp} {v : V} {a : (Pat × Pat)} {G : V → Hp → Prop} (S : Sx P0' F0 H0 F H) (r : qEither.r K F v a) (k : G v H) : mtK (He.ga K "Either") "__str__" G v H := by
  obtain ⟨p, dx, u0, u1, rfl, h2, k0, k1⟩ := r
  exact mt_at (S.sub _ _ h2) (by rfl) k
theorem fld_Rule_openers {P0' : Addr → Prop} {F0 H0 F H : Hp} {v : V} {a : ((List Pat) × (List Pat) × (List (Str × Th)))} {Q : VK} (T : Tx P K mg) (S : Sx P0' F0 H0 F H) (r : qRule.r K F v a) (k : ∀ u, (qL qPat).r K F u a.1 → Q u H) : fdK K "openers" Q v H := by
  obtain ⟨p, dx, u0, u1, u2, rfl, h2, k0, k1, k2⟩ := r
  exact fd_at (S.sub _ _ h2) T.c_Rule T.na_Rule_openers (by rfl) (k _ k0)
theorem fld_Rule_closers {P0' : Addr → Prop} {F0 H0 F H : Hp} {v : V} {a : ((List Pat) × (List Pat) × (List (Str × Th)))} {Q : VK} (T : Tx P K mg) (S : Sx P0' F0 H0 F H) (r : qRule.r K F v a) (k : ∀ u, (qL qPat).r K F u a.2.1 → Q u H) : fdK K "closers" Q v H := by
  obtain ⟨p, dx, u0, u1, u2, rfl, h2, k0, k1, k2⟩ := r
  exact fd_at (S.sub _ _ h2) T.c_Rule T.na_Rule_closers (by rfl) (k _ k1)
theorem fld_Rule_settings {P0' : Addr → Prop} {F0 H0 F H : Hp} {v : V} {a : ((List Pat) × (List Pat) × (List (Str × Th)))} {Q : VK} (T : Tx P K mg) (S : Sx P0' F0 H0 F H) (r : qRule.r K F v a) (k : ∀ u, qSd.r K F u a.2.2 → Q u H) : fdK K "settings" Q v H := by
  obtain ⟨p, dx, u0, u1, u2, rfl, h2, k0, k1, k2⟩ := r
  exact fd_at (S.sub _ _ h2) T.c_Rule T.na_Rule_settings (by rfl) (k _ k2)
theorem mt_Rule_begins {P0' : Addr → Prop} {F0 H0 F H : Hp} {v : V} {a : ((List Pat) × (List Pat) × (List (Str × Th)))} {G : V → Hp → Prop} (S : Sx P0' F0 H0 F H) (r : qRule.r K F v a) (k : G v H) : mtK (He.ga K "Rule") "begins" G v H := by
  obtain ⟨p, dx, u0, u1, u2, rfl, h2, k0, k1, k2⟩ := r
  exact mt_at (S.sub _ _ h2) (by rfl) k
theorem mt_Rule_ends {P0' : Addr → Prop} {F0 H0 F H : Hp} {v : V} {a : ((List Pat) × (List Pat) × (List (Str × Th)))} {G : V → Hp → Prop} (S : Sx P0' F0 H0 F H) (r : qRule.r K F v a) (k : G v H) : mtK (He.ga K "Rule") "ends" G v H := by
  obtain ⟨p, dx, u0, u1, u2, rfl, h2, k0, k1, k2⟩ := r
  exact mt_at (S.sub _ _ h2) (by rfl) k
theorem mt_Rule_change {P0' : Addr → Prop} {F0 H0 F H : Hp} {v : V} {a : ((List Pat) × (List Pat) × (List (Str × Th)))} {G : V → Hp → Prop} (S : Sx P0' F0 H0 F H) (r : qRule.r K F v a) (k : G v H) : mtK (He.ga K "Rule") "change" G v H := by
  obtain ⟨p, dx, u0, u1, u2, rfl, h2, k0, k1, k2⟩ := r
  exact mt_at (S.sub _ _ h2) (by rfl) k
theorem pr_Rule_most {P0' : Addr → Prop} {F0 H0 F H : Hp} {v : V} {a : ((List Pat) × (List Pat) × (List (Str × Th)))} {Q : VK} {E : XK} {sp : L2.Sp} (S : Sx P0' F0 H0 F H) (r : qRule.r K F v a) (k : sp [v] H Q E) : prK (He.ga K "Rule") sp [] E Q v H := by
  obtain ⟨p, dx, u0, u1, u2, rfl, h2, k0, k1, k2⟩ := r
  exact pr_at (S.sub _ _ h2) k
theorem pr_Rule_alone {P0' : Addr → Prop} {F0 H0 F H : Hp} {v : V} {a : ((List Pat) × (List Pat) × (List (Str × Th)))} {Q : VK} {E : XK} {sp : L2.Sp} (S : Sx P0' F0 H0 F H) (r : qRule.r K F v a) (k : sp [v] H Q E) : prK (He.ga K "Rule") sp [] E Q v H := by
  obtain ⟨p, dx, u0, u1, u2, rfl, h2, k0, k1, k2⟩ := r
  exact pr_at (S.sub _ _ h2) k
theorem pr_Rule_tags {P0' : Addr → Prop} {F0 H0 F H : Hp} {v : V} {a : ((List Pat) × (List Pat) × (List (Str × Th)))} {Q : VK} {E : XK} {sp : L2.Sp} (S : Sx P0' F0 H0 F H) (r : qRule.r K F v a) (k : sp [v] H Q E) : prK (He.ga K "Rule") sp [] E Q v H := by
  obtain ⟨p, dx, u0, u1, u2, rfl, h2, k0, k1, k2⟩ := r
  exact pr_at (S.sub _ _ h2) k
theorem pr_Rule_quiet {P0' : Addr → Prop} {F0 H0 F H : Hp} {v : V} {a : ((List Pat) × (List Pat) × (List (Str × Th)))} {Q : VK} {E : XK} {sp : L2.Sp} (S : Sx P0' F0 H0 F H) (r : qRule.r K F v a) (k : sp [v] H Q E) : prK (He.ga K "Rule") sp [] E Q v H := by
  obtain ⟨p, dx, u0, u1, u2, rfl, h2, k0, k1, k2⟩ := r
  exact pr_at (S.sub _ _ h2) k
def sp_law_pool (K : PySem.W.Frag) : Sp := fun vs H Q _ => ∃ (F : Hp) (v__law_script : V) (a__law_script : List Int) (a__law_k : Int) (r : (Int × Int)), vs = [v__law_script, (V.int (a__law_k))] ∧ Same F H ∧ qC.r K F v__law_script a__law_script ∧ m_law_pool a__law_script a__law_k = some r ∧ ∀ p F' H', H p = none → Sx P0 F H F' H' → Ow (fun a => a = p) H F' H' p (.lst [.int r.1, .int r.2]) → Q (.ref p) H'
theorem sc_law_pool : FnScope ["_law_script", "_law_k", "_law_cell", "_law_seed"] ["_law_script", "_law_k"] (defScope s_law_pool) := ⟨rfl, rfl, rfl, by decide +kernel, rfl, by decide +kernel, by decide +kernel⟩
theorem bn_law_pool (T : Tx P K mg) : Binds K (fdOf K ("_law_pool", none)) ["_law_script", "_law_k"] [] := FunD.bindsN T.F_law_pool fun _ _ _ _ _ _ us hl => match us, hl with | [_, _], _ => rfl
theorem ok_law_pool (T : Tx P K mg) : FnOk P w K mg base CX0 1 (He.ga K "_law_pool") (fdOf K ("_law_pool", none)) ["_law_script", "_law_k"] (sp_law_pool K) := by
  refine FunD.ok T.F_law_pool sc_law_pool (fun vs H0 Q E h => ?_) (fun cdv A outer s H0 vs Q E hr h => ?_)
  · obtain ⟨_, _, _, _, _, rfl, _⟩ := h
    rfl
  · obtain ⟨F0, v__law_script, a__law_script, a__law_k, r, rfl, hE, f__law_script, hm, hQ⟩ := h
    refine ⟨_, PSs.nox ((pss_cons (ps_set (i := 2) sc_law_pool.nd rfl (dk rfl) pe_int) (C8.pss_cut (ps_if (pt_cmpR (r := rNeD K) (op_neD hr.units) (pv 0) (pe_lst pa_nil) (nomark _)) (pss_one (ps_set (i := 2) sc_law_pool.nd rfl (dk rfl) (pe_ix (r := rIxL K) ix_list (pv 0) (pe_op op_mod (pe_callTy cr_int (by rfl) T.n_int (by decide +kernel) (pa_cons (pv 1) pa_nil)) (pe_callB (r := rLenQ K) cr_lenQ (by rfl) T.n_len (by decide +kernel) (pa_cons (pv 0) pa_nil))) (fun _ _ => rfl)))) pss_nil) (pss_cons (ps_set (i := 3) sc_law_pool.nd rfl (dk rfl) (pe_op op_mod (pe_op op_mul (pe_callTy cr_int (by rfl) T.n_int (by decide +kernel) (pa_cons (pe_op op_add (pe_op op_add (pe_op op_mod (pe_callTy cr_int (by rfl) T.n_int (by decide +kernel) (pa_cons (pv 2) pa_nil)) pe_int) (pe_op op_mul pe_int (pv 1))) pe_int) pa_nil)) pe_int) pe_int)) (pss_one (ps_ret (pe_lst (pa_cons (pe_op op_mul (pv 2) (pe_callTy cr_int (by rfl) T.n_int (by decide +kernel) (pa_cons (pe_cmpR op_ge (pv 2) (pe_op op_pow pe_int pe_int) (nomark _)) pa_nil))) (pa_cons (pv 3) pa_nil))))))))), ?_⟩
    have S : Sx P0 F0 H0 F0 H0 := Sx.refl0 hE
    unfold m_law_pool at hm
    obtain ⟨t1, e2, hm⟩ := bd_some hm
    refine rd_seq ?_
    refine rd_asg ?_
    refine rd_c ?_
    refine rd_gn ?_
    refine rd_cut (fun σ' H' => ∃ (F : Hp) (o3 : Option V), σ' = [some v__law_script, some (V.int (a__law_k)), some (V.int (t1)), o3] ∧ Sx P0 F0 H0 F H') ?_ ?_
    · skip
      have S3 := Sx.refl0 S.sub
      refine rd_ifS ?_
      refine rd_test ?_
      refine rd_op ?_
      refine rd_v rfl ?_
      refine rd_lst ?_
      refine rd_nil ?_
      refine rd_lK rfl ?_
      refine alL (K := K) (A := qI) (xs := ([] : List Int)) S3 .nil (fun v4 F5 H6 c7 f8 => ?_)
      have S9 := S3.call0 c7
      have f__law_script := qC.mono c7.le f__law_script
      obtain ⟨g10, e2⟩ := gd_some e2
      obtain ⟨g11, e2⟩ := gd_some e2
      refine rd_neD (D := (dL dI)) (S9.cd f__law_script) (S9.d (dL dI) f8) g10 g11 ?_
      refine rd_b ?_
      refine if_b e2 (fun b12 e2 => ?_) (fun b12 e2 => ?_)
      · skip
        obtain ⟨g13, e2⟩ := gd_some e2
        obtain ⟨t14, e15, e2⟩ := bd_some e2
        refine rd_asg ?_
        refine rd_op ?_
        refine rd_v rfl ?_
        refine rd_op ?_
        refine rd_cb ?_
        refine rd_cons ?_
        refine rd_v rfl ?_
        refine rd_nil ?_
        refine rd_intI ?_
        refine rd_cb ?_
        refine rd_cons ?_
        refine rd_v rfl ?_
        refine rd_nil ?_
        refine rd_lenQ (S9.c f__law_script).q ?_
        refine rd_I (modOk_of g13) ?_
        refine rd_ixL (S9.c f__law_script) e15 (fun u16 f17 => ?_)
        cases (show u16 = (V.int (t14)) from f17)
        cases e2
        refine rd_gn ?_
        exact ⟨F5, _, rfl, S9⟩
      · skip
        cases e2
        refine rd_next ?_
        exact ⟨F5, _, rfl, S9⟩
    · skip
      rintro σ19 H18 ⟨F20, o22, rfl, S21⟩
      have S23 := S.call0 S21
      have f__law_script := qC.mono S21.le f__law_script
      obtain ⟨g24, hm⟩ := gd_some hm
      obtain ⟨g25, hm⟩ := gd_some hm
      obtain ⟨g26, hm⟩ := gd_some hm
      obtain ⟨g27, hm⟩ := gd_some hm
      obtain ⟨g28, hm⟩ := gd_some hm
      obtain ⟨g29, hm⟩ := gd_some hm
      refine rd_seq ?_
      refine rd_asg ?_
      refine rd_op ?_
      refine rd_op ?_
      refine rd_cb ?_
      refine rd_cons ?_
      refine rd_op ?_
      refine rd_op ?_
      refine rd_op ?_
      refine rd_cb ?_
      refine rd_cons ?_
      refine rd_v rfl ?_
      refine rd_nil ?_
      refine rd_intI ?_
      refine rd_c ?_
      refine rd_I (modOk_of g24) ?_
      refine rd_op ?_
      refine rd_c ?_
      refine rd_v rfl ?_
      refine rd_I (mulOk_of g25) ?_
      refine rd_I0 ?_
      refine rd_c ?_
      refine rd_I0 ?_
      refine rd_nil ?_
      refine rd_intI ?_
      refine rd_c ?_
      refine rd_I (mulOk_of g26) ?_
      refine rd_c ?_
      refine rd_I (modOk_of g27) ?_
      refine rd_gn ?_
      refine rd_ret ?_
      refine rd_lst ?_
      refine rd_cons ?_
      refine rd_op ?_
      refine rd_v rfl ?_
      refine rd_cb ?_
      refine rd_cons ?_
      refine rd_op ?_
      refine rd_v rfl ?_
      refine rd_op ?_
      refine rd_c ?_
      refine rd_c ?_
      refine rd_I (powOk_of g28) ?_
      refine rd_I0 ?_
      refine rd_nil ?_
      refine rd_intB ?_
      refine rd_I (mulOk_of g29) ?_
      refine rd_cons ?_
      refine rd_v rfl ?_
      refine rd_nil ?_
      refine rd_lK rfl ?_
      refine al S23 (fun p30 H31 np32 c33 w34 => ?_)
      have z35 := S23.free0 np32
      have S36 := S23.call0 c33
      have f__law_script := qC.mono c33.le f__law_script
      cases hm
      exact hQ _ _ _ z35 S36 ⟨w34.fr, w34.at_, .inr rfl⟩
def sp_law_good (K : PySem.W.Frag) : Sp := fun vs H Q _ => ∃ (F : Hp) (a__law_k : Int) (v__law_value_here : V) (a__law_value_here : Th) (r : Bool), vs = [(V.int (a__law_k)), v__law_value_here] ∧ Same F H ∧ qTh.r K F v__law_value_here a__law_value_here ∧ m_law_good a__law_k a__law_value_here = some r ∧ ∀ v F' H', Sx P0 F H F' H' → qB.r K F' v r → Q v H'
theorem sc_law_good : FnScope ["_law_k", "_law_value_here"] ["_law_k", "_law_value_here"] (defScope s_law_good) := ⟨rfl, rfl, rfl, by decide +kernel, rfl, by decide +kernel, by decide +kernel⟩
theorem bn_law_good (T : Tx P K mg) : Binds K (fdOf K ("_law_good", none)) ["_law_k", "_law_value_here"] [] := FunD.bindsN T.F_law_good fun _ _ _ _ _ _ us hl => match us, hl with | [_, _], _ => rfl
theorem ok_law_good (T : Tx P K mg) : FnOk P w K mg base CX0 1 (He.ga K "_law_good") (fdOf K ("_law_good", none)) ["_law_k", "_law_value_here"] (sp_law_good K) := by
  refine FunD.ok T.F_law_good sc_law_good (fun vs H0 Q E h => ?_) (fun cdv A outer s H0 vs Q E hr h => ?_)
  · obtain ⟨_, _, _, _, _, rfl, _⟩ := h
    rfl
  · obtain ⟨F0, a__law_k, v__law_value_here, a__law_value_here, r, rfl, hE, f__law_value_here, hm, hQ⟩ := h
    refine ⟨_, PSs.nox ((pss_cons (ps_if (pt_cmpR (r := rIn K false) op_in_seq (pv 0) (pe_tup (pa_cons pe_int (pa_cons pe_int pa_nil))) rfl) (pss_one (ps_ret (pe_callB (r := rIsi K) call_isi (by rfl) T.n_isinstance (by decide +kernel) (pa_cons (pv 1) (pa_cons (pe_bltn (v := V.ty "bool") (by rfl) T.n_bool (by decide +kernel) rfl) pa_nil))))) pss_nil) (pss_cons (ps_if (pt_cmpR op_isN' (pv 1) pe_non (nomark _)) (pss_one (ps_ret pe_bl)) pss_nil) (pss_cons (ps_if (PW.pt (pw_or (pt_not (pt_val (pe_callB (r := rIsi K) call_isi (by rfl) T.n_isinstance (by decide +kernel) (pa_cons (pv 1) (pa_cons (pe_bltn (v := V.ty "int") (by rfl) T.n_int (by decide +kernel) rfl) pa_nil))))) (pw_or1 (pt_val (pe_callB (r := rIsi K) call_isi (by rfl) T.n_isinstance (by decide +kernel) (pa_cons (pv 1) (pa_cons (pe_bltn (v := V.ty "bool") (by rfl) T.n_bool (by decide +kernel) rfl) pa_nil))))))) (pss_one (ps_ret pe_bl)) pss_nil) (pss_one (ps_ret (pe_ifExp (pt_cmpR op_eqI (pv 0) pe_int (nomark _)) (pe_chain op_le op_le pe_int (pv 1) pe_int) (pe_chain op_le op_le pe_int (pv 1) pe_int)))))))), ?_⟩
    have S : Sx P0 F0 H0 F0 H0 := Sx.refl0 hE
    unfold m_law_good at hm
    refine rd_seq ?_
    refine rd_ifS ?_
    refine rd_test ?_
    refine rd_op ?_
    refine rd_v rfl ?_
    refine rd_tup ?_
    refine rd_cons ?_
    refine rd_c ?_
    refine rd_cons ?_
    refine rd_c ?_
    refine rd_nil ?_
    refine rd_uK rfl ?_
    refine alT (K := K) (A := qI) (xs := ([1, 3] : List Int)) S (.cons rfl (.cons rfl .nil)) (fun v1 F2 H3 c4 f5 => ?_)
    have S6 := S.call0 c4
    have f__law_value_here := qTh.mono c4.le f__law_value_here
    refine rd_inI (S6.t f5).q ?_
    refine rd_b ?_
    refine if_b hm (fun b7 hm => ?_) (fun b7 hm => ?_)
    · skip
      cases hm
      refine rd_ret ?_
      refine rd_cb ?_
      refine rd_cons ?_
      refine rd_v rfl ?_
      refine rd_cons ?_
      refine rd_c ?_
      refine rd_nil ?_
      refine rd_isiTh (n := "bool") (tx_th S6 f__law_value_here) (by decide +kernel) ?_
      exact hQ _ _ _ S6 rfl
    · skip
      refine rd_next ?_
      refine rd_seq ?_
      refine rd_ifS ?_
      refine rd_test ?_
      refine rd_op ?_
      refine rd_v rfl ?_
      refine rd_c ?_
      refine rd_isNTh f__law_value_here ?_
      refine rd_b ?_
      refine if_b hm (fun b8 hm => ?_) (fun b8 hm => ?_)
      · skip
        cases hm
        refine rd_ret ?_
        refine rd_c ?_
        exact hQ _ _ _ S6 rfl
      · skip
        refine rd_next ?_
        refine rd_seq ?_
        refine rd_ifS ?_
        refine rd_or ?_
        refine rd_not ?_
        refine rd_tB ?_
        refine rd_cb ?_
        refine rd_cons ?_
        refine rd_v rfl ?_
        refine rd_cons ?_
        refine rd_c ?_
        refine rd_nil ?_
        refine rd_isiTh (n := "int") (tx_th S6 f__law_value_here) (by decide +kernel) ?_
        refine rd_b ?_
        refine or_p (by intro _ Q' q; refine rd_tB ?_; refine rd_cb ?_; refine rd_cons ?_; refine rd_v rfl ?_; refine rd_cons ?_; refine rd_c ?_; refine rd_nil ?_; refine rd_isiTh (n := "bool") (tx_th S6 f__law_value_here) (by decide +kernel) ?_; refine rd_b ?_; exact q) ?_
        refine if_b hm (fun b9 hm => ?_) (fun b9 hm => ?_)
        · skip
          cases hm
          refine rd_ret ?_
          refine rd_c ?_
          exact hQ _ _ _ S6 rfl
        · skip
          obtain ⟨t10, e11, hm⟩ := bd_some hm
          refine rd_next ?_
          refine rd_ret ?_
          refine rd_ifE ?_
          refine rd_test ?_
          refine rd_op ?_
          refine rd_v rfl ?_
          refine rd_c ?_
          refine rd_I0 ?_
          refine rd_b ?_
          refine ifE_j (fun c H' => ∃ F', c = (V.bl (t10)) ∧ Sx P0 F2 H3 F' H') ?_ ?_ ?_
          · intro b12 Q13 q14
            have hm15 := if_t e11 b12
            have S16 := Sx.refl0 S6.sub
            obtain ⟨t17, e18, hm15⟩ := bd_some hm15
            have e19 := thI_fact f__law_value_here e18
            cases e19
            cases hm15
            refine rd_chain ?_
            refine rd_c ?_
            refine rd_v rfl ?_
            refine rd_I0 ?_
            refine ch_at (c := decide (t17 ≤ 20)) (by intro Q9 k9; refine rd_c ?_; exact k9) (fun _ k9 => rd_I0 k9) ?_
            exact q14 _ _ ⟨F2, rfl, S16⟩
          · intro b20 Q21 q22
            have hm23 := if_f e11 b20
            have S24 := Sx.refl0 S6.sub
            obtain ⟨t25, e26, hm23⟩ := bd_some hm23
            have e27 := thI_fact f__law_value_here e26
            cases e27
            cases hm23
            refine rd_chain ?_
            refine rd_c ?_
            refine rd_v rfl ?_
            refine rd_I0 ?_
            refine ch_at (c := decide (t25 ≤ 9)) (by intro Q9 k9; refine rd_c ?_; exact k9) (fun _ k9 => rd_I0 k9) ?_
            exact q22 _ _ ⟨F2, rfl, S24⟩
          rintro v31 H29 ⟨F28, f32, c30⟩
          have S33 := S6.call0 c30
          have f__law_value_here := qTh.mono c30.le f__law_value_here
          cases (show v31 = (V.bl (t10)) from f32)
          cases hm
          exact hQ _ _ _ S33 rfl
def sp_law_fields (K : PySem.W.Frag) : Sp := fun vs H Q _ => ∃ (F : Hp)  (r : (List Str)), vs = [] ∧ Same F H ∧ m_law_fields = some r ∧ ∀ v F' H', Sx P0 F H F' H' → (qL qS).r K F' v r → Q v H'
theorem sc_law_fields : FnScope [] [] (defScope s_law_fields) := ⟨rfl, rfl, rfl, by decide +kernel, rfl, by decide +kernel, by decide +kernel⟩
theorem bn_law_fields (T : Tx P K mg) : Binds K (fdOf K ("_law_fields", none)) [] [] := FunD.bindsN T.F_law_fields fun _ _ _ _ _ _ us hl => match us, hl with | [], _ => rfl
theorem ok_law_fields (T : Tx P K mg) : FnOk P w K mg base CX0 1 (He.ga K "_law_fields") (fdOf K ("_law_fields", none)) [] (sp_law_fields K) := by
  refine FunD.ok T.F_law_fields sc_law_fields (fun vs H0 Q E h => ?_) (fun cdv A outer s H0 vs Q E hr h => ?_)
  · obtain ⟨_, _, rfl, _⟩ := h
    rfl
  · obtain ⟨F0, r, rfl, hE, hm, hQ⟩ := h
    refine ⟨_, PSs.nox ((pss_one (ps_ret (pe_lst (pa_cons pe_str (pa_cons pe_str (pa_cons pe_str (pa_cons pe_str pa_nil)))))))), ?_⟩
    have S : Sx P0 F0 H0 F0 H0 := Sx.refl0 hE
    unfold m_law_fields at hm
    refine rd_ret ?_
    refine rd_lst ?_
    refine rd_cons ?_
    refine rd_c ?_
    refine rd_cons ?_
    refine rd_c ?_
    refine rd_cons ?_
    refine rd_c ?_
    refine rd_cons ?_
    refine rd_c ?_
    refine rd_nil ?_
    refine rd_lK rfl ?_
    refine alL (K := K) (A := qS) (xs := [("most" : Str), ("alone" : Str), ("tags" : Str), ("quiet" : Str)]) S (.cons rfl (.cons rfl (.cons rfl (.cons rfl .nil)))) (fun v1 F2 H3 c4 f5 => ?_)
    have S6 := S.call0 c4
    cases hm
    exact hQ _ _ _ S6 f5
def sp_law_due (K : PySem.W.Frag) : Sp := fun vs H Q _ => ∃ (F : Hp) (v__law_values : V) (a__law_values : (List Th)) (v__law_asked : V) (a__law_asked : (List Int)) (r : (Option Str)), vs = [v__law_values, v__law_asked] ∧ Same F H ∧ (qL qTh).r K F v__law_values a__law_values ∧ (qL qI).r K F v__law_asked a__law_asked ∧ m_law_due a__law_values a__law_asked = some r ∧ ∀ v F' H', Sx P0 F H F' H' → (qO qS).r K F' v r → Q v H'
theorem sc_law_due : FnScope ["_law_values", "_law_asked", "_law_k"] ["_law_values", "_law_asked"] (defScope s_law_due) := ⟨rfl, rfl, rfl, by decide +kernel, rfl, by decide +kernel, by decide +kernel⟩
theorem bn_law_due (T : Tx P K mg) : Binds K (fdOf K ("_law_due", none)) ["_law_values", "_law_asked"] [] := FunD.bindsN T.F_law_due fun _ _ _ _ _ _ us hl => match us, hl with | [_, _], _ => rfl
theorem ok_law_due (T : Tx P K mg) : FnOk P w K mg base CX0 2 (He.ga K "_law_due") (fdOf K ("_law_due", none)) ["_law_values", "_law_asked"] (sp_law_due K) := by
  refine FunD.ok T.F_law_due sc_law_due (fun vs H0 Q E h => ?_) (fun cdv A outer s H0 vs Q E hr h => ?_)
  · obtain ⟨_, _, _, _, _, _, rfl, _⟩ := h
    rfl
  · obtain ⟨F0, v__law_values, a__law_values, v__law_asked, a__law_asked, r, rfl, hE, f__law_values, f__law_asked, hm, hQ⟩ := h
    refine ⟨_, PSs.nox ((pss_cons (ps_for PassesOwn.never rfl (pi_listK (pv 1)) (pg_name (i := 2) sc_law_due.nd rfl (dk rfl)) (pss_one (ps_if (pt_not (pt_val (pe_call (ok_law_good T) (hr.mono (by decide)) (by rfl) T.g_law_good T.F_law_good.kp (bn_law_good T) .nil pass0 (pa_cons (pv 2) (pa_cons (pe_ix (r := rIxL K) ix_list (pv 0) (pv 2) (fun _ _ => rfl)) pa_nil))))) (pss_one (ps_ret (pe_ix (r := rIxL K) ix_list (pe_call0 (ok_law_fields T) (hr.mono (by decide)) (by rfl) T.g_law_fields T.F_law_fields.kp (bn_law_fields T) .nil pass0) (pv 2) (fun _ _ => rfl)))) pss_nil))) (pss_one (ps_ret pe_non)))), ?_⟩
    have S : Sx P0 F0 H0 F0 H0 := Sx.refl0 hE
    unfold m_law_due at hm
    refine rd_seq ?_
    refine rd_for ?_
    refine rd_iL ?_
    refine rd_v rfl ?_
    refine rd_wLF S (f__law_asked) (fun p1 vs2 hq3 row4 => ?_)
    obtain ⟨t5, e6, hm⟩ := bd_some hm
    refine rd_forC feedsL (typedRow row4) e6 (fun (s7 : Unit) σ H => ∃ (F : Hp) (o2 : Option V), σ = [some v__law_values, some v__law_asked, o2] ∧ Sx P0 F0 H0 F H) ?_ ?_ ?_ ?_
    · rintro _ _ _ ⟨_, _, _, S8⟩
      exact (Same.seq S8.sub (Same.seq S8.le hq3))
    · skip
      have S9 := Sx.refl0 S.sub
      exact ⟨F0, _, rfl, S9⟩
    · skip
      rintro x10 v11 s12 c16 σ13 H14 f15 ⟨F17, o19, rfl, S18⟩ hm22 hbk20 hrt21
      have f__law_values := (qL qTh).mono S18.le f__law_values
      have f__law_asked := (qL qI).mono S18.le f__law_asked
      unfold m_law_due_b1 at hm22
      cases (show v11 = (V.int (x10)) from f15)
      obtain ⟨t23, e24, hm22⟩ := bd_some hm22
      refine rd_gn ?_
      refine rd_ifS ?_
      refine rd_not ?_
      refine rd_tB ?_
      refine rd_call ?_
      refine rd_cons ?_
      refine rd_v rfl ?_
      refine rd_cons ?_
      refine rd_op ?_
      refine rd_v rfl ?_
      refine rd_v rfl ?_
      refine rd_ixL (S18.l f__law_values).r e24 (fun u25 f26 => ?_)
      obtain ⟨t27, e28, hm22⟩ := bd_some hm22
      refine rd_nil ?_
      refine ⟨F17, _, _, _, t27, rfl, S18.sub, f26, e28, fun v32 F29 H30 c31 f33 => ?_⟩
      have S34 := S18.call0 c31
      have f__law_values := (qL qTh).mono c31.le f__law_values
      have f__law_asked := (qL qI).mono c31.le f__law_asked
      cases (show v32 = (V.bl (t27)) from f33)
      refine rd_b ?_
      refine if_b hm22 (fun b35 hm22 => ?_) (fun b35 hm22 => ?_)
      · skip
        obtain ⟨t36, e37, hm22⟩ := bd_some hm22
        refine rd_ret ?_
        refine rd_op ?_
        refine rd_call ?_
        refine rd_nil ?_
        refine ⟨F29, t36, rfl, S34.sub, e37, fun v41 F38 H39 c40 f42 => ?_⟩
        have S43 := S34.call0 c40
        have f__law_values := (qL qTh).mono c40.le f__law_values
        have f__law_asked := (qL qI).mono c40.le f__law_asked
        obtain ⟨t44, e45, hm22⟩ := bd_some hm22
        refine rd_v rfl ?_
        refine rd_ixL (S43.l f42).r e45 (fun u46 f47 => ?_)
        cases (show u46 = (V.str (t44)) from f47)
        have f48 : (qO qS).r K F38 (V.str (t44)) (some t44) := (show (qO qS).r K F38 (V.str (t44)) (some t44) from rfl)
        cases hm22
        have e49 := hrt21 _ rfl
        subst e49
        have hm := aft_rt hm
        have S50 := S.call0 S43
        cases hm
        exact hQ _ _ _ S50 f48
      · skip
        cases hm22
        refine rd_next ?_
        exact ⟨_, rfl, ⟨F29, _, rfl, S34⟩⟩
    · skip
      rintro s53 σ51 H52 e54 ⟨F55, o57, rfl, S56⟩
      subst e54
      have hm := aft_nx hm
      have S58 := S.call0 S56
      have f__law_values := (qL qTh).mono S56.le f__law_values
      have f__law_asked := (qL qI).mono S56.le f__law_asked
      have f59 : (qO qS).r K F55 V.non none := (show (qO qS).r K F55 V.non none from rfl)
      cases hm
      refine rd_ret ?_
      refine rd_c ?_
      exact hQ _ _ _ S58 f59
def sp_is_line (K : PySem.W.Frag) : Sp := fun vs H Q _ => ∃ (F : Hp) (v_thing : V) (a_thing : Th) (r : Bool), vs = [v_thing] ∧ Same F H ∧ qTh.r K F v_thing a_thing ∧ m_is_line a_thing = some r ∧ ∀ v F' H', Sx P0 F H F' H' → qB.r K F' v r → Q v H'
theorem sc_is_line : FnScope ["thing", "sign"] ["thing"] (defScope s_is_line) := ⟨rfl, rfl, rfl, by decide +kernel, rfl, by decide +kernel, by decide +kernel⟩
theorem bn_is_line (T : Tx P K mg) : Binds K (fdOf K ("is_line", none)) ["thing"] [] := FunD.bindsN T.F_is_line fun _ _ _ _ _ _ us hl => match us, hl with | [_], _ => rfl
theorem ok_is_line (T : Tx P K mg) : FnOk P w K mg base CX0 1 (He.ga K "is_line") (fdOf K ("is_line", none)) ["thing"] (sp_is_line K) := by
  refine FunD.ok T.F_is_line sc_is_line (fun vs H0 Q E h => ?_) (fun cdv A outer s H0 vs Q E hr h => ?_)
  · obtain ⟨_, _, _, _, rfl, _⟩ := h
    rfl
  · obtain ⟨F0, v_thing, a_thing, r, rfl, hE, f_thing, hm, hQ⟩ := h
    refine ⟨_, PSs.nox ((pss_cons (ps_if (PW.pt (pw_or (pt_not (pt_val (pe_callB (r := rIsi K) call_isi (by rfl) T.n_isinstance (by decide +kernel) (pa_cons (pv 0) (pa_cons (pe_bltn (v := V.ty "str") (by rfl) T.n_str (by decide +kernel) rfl) pa_nil))))) (pw_or1 (pt_cmpR op_eqS (pv 0) pe_str (nomark _))))) (pss_one (ps_ret pe_bl)) pss_nil) (pss_cons (ps_for PassesOwn.never rfl (pi_str (pv 0)) (pg_name (i := 1) sc_is_line.nd rfl (dk rfl)) (pss_one (ps_if (pt_cmpR op_niS (pv 1) (pe_glob (v := V.str " #-.0123456789:>ABCDEFGHIJKLMNOPQRSTUVWXYZabcdefghijklmnopqrstuvwxyz") (by rfl) (T.k_SIGNS.choose_spec) ⟨_, rfl⟩) rfl) (pss_one (ps_ret pe_bl)) pss_nil))) (pss_one (ps_ret pe_bl))))), ?_⟩
    have S : Sx P0 F0 H0 F0 H0 := Sx.refl0 hE
    unfold m_is_line at hm
    obtain ⟨t4, e5, hm⟩ := bd_some hm
    refine rd_seq ?_
    refine rd_ifS ?_
    refine rd_or ?_
    refine rd_not ?_
    refine rd_tB ?_
    refine rd_cb ?_
    refine rd_cons ?_
    refine rd_v rfl ?_
    refine rd_cons ?_
    refine rd_c ?_
    refine rd_nil ?_
    refine rd_isiTh (n := "str") (tx_th S f_thing) (by decide +kernel) ?_
    refine rd_b ?_
    refine or_j (fun c H' => c = t4 ∧ ∃ F', Sx P0 F0 H0 F' H') ?_ ?_ ?_
    · intro b6 Q7 q8
      have e5 := if_f e5 b6
      have S9 := Sx.refl0 S.sub
      obtain ⟨t10, e11, e5⟩ := bd_some e5
      have e12 := thS_fact f_thing e11
      cases e12
      cases e5
      refine rd_test ?_
      refine rd_op ?_
      refine rd_v rfl ?_
      refine rd_c ?_
      refine rd_S0 ?_
      refine rd_b ?_
      exact q8 _ _ ⟨rfl, F0, S9⟩
    · intro b6
      have e5 := if_t e5 b6
      cases e5
      have S13 := Sx.refl0 S.sub
      exact ⟨rfl, F0, S13⟩
    rintro b17 H15 ⟨rfl, F14, c16⟩
    have S18 := S.call0 c16
    have f_thing := qTh.mono c16.le f_thing
    refine if_b hm (fun b19 hm => ?_) (fun b19 hm => ?_)
    · skip
      cases hm
      refine rd_ret ?_
      refine rd_c ?_
      exact hQ _ _ _ S18 rfl
    · skip
      obtain ⟨t20, e21, hm⟩ := bd_some hm
      have e22 := thS_fact f_thing e21
      cases e22
      refine rd_next ?_
      refine rd_seq ?_
      refine rd_for ?_
      refine rd_iS ?_
      refine rd_v rfl ?_
      refine rd_wS ?_
      obtain ⟨t23, e24, hm⟩ := bd_some hm
      refine rd_forC feedsS (typedS (K := K) (F := F14)) e24 (fun (s25 : Unit) σ H => ∃ (F : Hp) (o1 : Option V), σ = [some (V.str (t20)), o1] ∧ Sx P0 F14 H15 F H) ?_ ?_ ?_ ?_
      · intro _ _ _ _; trivial
      · skip
        have S27 := Sx.refl0 S18.sub
        exact ⟨F14, _, rfl, S27⟩
      · skip
        rintro x28 v29 s30 c34 σ31 H32 f33 ⟨F35, o37, rfl, S36⟩ hm40 hbk38 hrt39
        unfold m_is_line_b1 at hm40
        cases (show v29 = (V.str (x28)) from f33)
        refine rd_gn ?_
        refine rd_ifS ?_
        refine rd_test ?_
        refine rd_op ?_
        refine rd_v rfl ?_
        refine rd_c ?_
        refine rd_niSS ?_
        refine rd_b ?_
        refine if_b hm40 (fun b41 hm40 => ?_) (fun b41 hm40 => ?_)
        · skip
          cases hm40
          have e42 := hrt39 _ rfl
          subst e42
          have hm := aft_rt hm
          have S43 := S18.call0 S36
          cases hm
          refine rd_ret ?_
          refine rd_c ?_
          exact hQ _ _ _ S43 rfl
        · skip
          cases hm40
          refine rd_next ?_
          exact ⟨_, rfl, ⟨F35, _, rfl, S36⟩⟩
      · skip
        rintro s46 σ44 H45 e47 ⟨F48, o50, rfl, S49⟩
        subst e47
        have hm := aft_nx hm
        have S51 := S18.call0 S49
        cases hm
        refine rd_ret ?_
        refine rd_c ?_
        exact hQ _ _ _ S51 rfl
def sp_is_allowed (K : PySem.W.Frag) : Sp := fun vs H Q _ => ∃ (F : Hp) (v_parts : V) (a_parts : (List Str)) (a_at : Int) (r : Bool), vs = [v_parts, (V.int (a_at))] ∧ Same F H ∧ (qT qS).r K F v_parts a_parts ∧ m_is_allowed a_parts a_at = some r ∧ ∀ v F' H', Sx P0 F H F' H' → qB.r K F' v r → Q v H'
theorem sc_is_allowed : FnScope ["parts", "at", "part"] ["parts", "at"] (defScope s_is_allowed) := ⟨rfl, rfl, rfl, by decide +kernel, rfl, by decide +kernel, by decide +kernel⟩
theorem bn_is_allowed (T : Tx P K mg) : Binds K (fdOf K ("is_allowed_patterns", none)) ["parts", "at"] [] := FunD.bindsN T.F_is_allowed fun _ _ _ _ _ _ us hl => match us, hl with | [_, _], _ => rfl
theorem ok_is_allowed (T : Tx P K mg) : FnOk P w K mg base CX0 2 (He.ga K "is_allowed_patterns") (fdOf K ("is_allowed_patterns", none)) ["parts", "at"] (sp_is_allowed K) := by
  refine FunD.ok T.F_is_allowed sc_is_allowed (fun vs H0 Q E h => ?_) (fun cdv A outer s H0 vs Q E hr h => ?_)
  · obtain ⟨_, _, _, _, _, rfl, _⟩ := h
    rfl
  · obtain ⟨F0, v_parts, a_parts, a_at, r, rfl, hE, f_parts, hm, hQ⟩ := h
    refine ⟨_, PSs.nox ((pss_cons (ps_set (i := 2) sc_is_allowed.nd rfl (dk rfl) (pe_ix (r := rIxT K) ix_tup (pv 0) (pv 1) (fun _ _ => rfl))) (pss_cons (ps_if (PW.pt (pw_or (pt_cmpR op_ge (pv 1) (pe_glob (v := V.int 4) (by rfl) (T.k_MOST_PARTS.choose_spec) ⟨_, rfl⟩) (nomark _)) (pw_or1 (pt_not (pt_val (pe_callB (r := rIsi K) call_isi (by rfl) T.n_isinstance (by decide +kernel) (pa_cons (pv 2) (pa_cons (pe_bltn (v := V.ty "str") (by rfl) T.n_str (by decide +kernel) rfl) pa_nil)))))))) (pss_one (ps_ret pe_bl)) pss_nil) (pss_cons (ps_if (pt_cmpR op_eqS (pv 2) (pe_glob (v := V.str "<any>") (by rfl) (T.k_ANY_CELL.choose_spec) ⟨_, rfl⟩) (nomark _)) (pss_one (ps_ret (pe_cmpR (r := rIn K true) op_notIn_seq (pe_glob (v := V.str "<any>") (by rfl) (T.k_ANY_CELL.choose_spec) ⟨_, rfl⟩) (pe_slice (r := rSlA K) sl_tupA (pv 0) po_none (po_some (pv 1))) rfl))) pss_nil) (pss_cons (ps_if (pt_cmpR (r := rIn K false) op_in_seq (pv 2) (pe_glob (v := V.ref (He.ga K "FREE_CELLS")) (by rfl) T.g_FREE_CELLS rfl) rfl) (pss_one (ps_ret pe_bl)) pss_nil) (pss_cons (ps_if (PW.pt (pw_and (pt_cmpR op_gt (pv 1) pe_int (nomark _)) (pw_and1 (pt_cmpR (r := rIn K true) op_notIn_seq (pe_ix (r := rIxT K) ix_tup (pv 0) (pe_op op_sub (pv 1) pe_int) (fun _ _ => rfl)) (pe_glob (v := V.ref (He.ga K "FREE_CELLS")) (by rfl) T.g_FREE_CELLS rfl) rfl)))) (pss_one (ps_ret pe_bl)) pss_nil) (pss_one (ps_ret (pe_and (pe_call (ok_is_line T) (hr.mono (by decide)) (by rfl) T.g_is_line T.F_is_line.kp (bn_is_line T) .nil pass0 (pa_cons (pv 2) pa_nil)) (pe_one (pe_cmpR op_le (pe_callB cr_lenS (by rfl) T.n_len (by decide +kernel) (pa_cons (pv 2) pa_nil)) (pe_glob (v := V.int 4) (by rfl) (T.k_MOST_SIGNS.choose_spec) ⟨_, rfl⟩) (nomark _)))))))))))), ?_⟩
    have S : Sx P0 F0 H0 F0 H0 := Sx.refl0 hE
    unfold m_is_allowed at hm
    obtain ⟨t1, e2, hm⟩ := bd_some hm
    refine rd_seq ?_
    refine rd_asg ?_
    refine rd_op ?_
    refine rd_v rfl ?_
    refine rd_v rfl ?_
    refine rd_ixT (S.t f_parts) e2 (fun u3 f4 => ?_)
    cases (show u3 = (V.str (t1)) from f4)
    refine rd_gn ?_
    refine rd_seq ?_
    refine rd_ifS ?_
    refine rd_or ?_
    refine rd_test ?_
    refine rd_op ?_
    refine rd_v rfl ?_
    refine rd_c ?_
    refine rd_I0 ?_
    refine rd_b ?_
    refine or_p (by intro _ Q' q; refine rd_not ?_; refine rd_tB ?_; refine rd_cb ?_; refine rd_cons ?_; refine rd_v rfl ?_; refine rd_cons ?_; refine rd_c ?_; refine rd_nil ?_; refine rd_isi (b := true) tx_str (by decide +kernel) ?_; refine rd_b ?_; exact q) ?_
    refine if_b hm (fun b5 hm => ?_) (fun b5 hm => ?_)
    · skip
      cases hm
      refine rd_ret ?_
      refine rd_c ?_
      exact hQ _ _ _ S rfl
    · skip
      refine rd_next ?_
      refine rd_seq ?_
      refine rd_ifS ?_
      refine rd_test ?_
      refine rd_op ?_
      refine rd_v rfl ?_
      refine rd_c ?_
      refine rd_S0 ?_
      refine rd_b ?_
      refine if_b hm (fun b6 hm => ?_) (fun b6 hm => ?_)
      · skip
        refine rd_ret ?_
        refine rd_op ?_
        refine rd_c ?_
        refine rd_sl ?_
        refine rd_v rfl ?_
        refine rd_np ?_
        refine rd_pt ?_
        refine rd_v rfl ?_
        refine rd_i ?_
        refine rd_slA S f_parts (fun v7 F8 H9 c10 f11 => ?_)
        have S12 := S.call0 c10
        have f_parts := (qT qS).mono c10.le f_parts
        cases hm
        refine rd_niS (S12.t f11).q ?_
        exact hQ _ _ _ S12 rfl
      · skip
        have f13 : (qT qS).r K F0 (.ref (He.ga K "FREE_CELLS")) (["<digits>", "<word>", "<any>"] : List Str) := T.q_FREE_CELLS _
        refine rd_next ?_
        refine rd_seq ?_
        refine rd_ifS ?_
        refine rd_test ?_
        refine rd_op ?_
        refine rd_v rfl ?_
        refine rd_c ?_
        refine rd_inS (S.t f13).q ?_
        refine rd_b ?_
        refine if_b hm (fun b14 hm => ?_) (fun b14 hm => ?_)
        · skip
          cases hm
          refine rd_ret ?_
          refine rd_c ?_
          exact hQ _ _ _ S rfl
        · skip
          obtain ⟨t20, e21, hm⟩ := bd_some hm
          refine rd_next ?_
          refine rd_seq ?_
          refine rd_ifS ?_
          refine rd_and ?_
          refine rd_test ?_
          refine rd_op ?_
          refine rd_v rfl ?_
          refine rd_c ?_
          refine rd_I0 ?_
          refine rd_b ?_
          refine and_j (fun c H' => c = t20 ∧ ∃ F', Sx P0 F0 H0 F' H') ?_ ?_ ?_
          · intro b22 Q23 q24
            have e21 := if_t e21 b22
            have S25 := Sx.refl0 S.sub
            obtain ⟨t26, e27, e21⟩ := bd_some e21
            refine rd_test ?_
            refine rd_op ?_
            refine rd_op ?_
            refine rd_v rfl ?_
            refine rd_op ?_
            refine rd_v rfl ?_
            refine rd_c ?_
            refine rd_I0 ?_
            refine rd_ixT (S25.t f_parts) e27 (fun u28 f29 => ?_)
            cases (show u28 = (V.str (t26)) from f29)
            have f30 : (qT qS).r K F0 (.ref (He.ga K "FREE_CELLS")) (["<digits>", "<word>", "<any>"] : List Str) := T.q_FREE_CELLS _
            cases e21
            refine rd_c ?_
            refine rd_niS (S25.t f30).q ?_
            refine rd_b ?_
            exact q24 _ _ ⟨rfl, F0, S25⟩
          · intro b22
            have e21 := if_f e21 b22
            cases e21
            have S31 := Sx.refl0 S.sub
            exact ⟨rfl, F0, S31⟩
          rintro b35 H33 ⟨rfl, F32, c34⟩
          have S36 := S.call0 c34
          have f_parts := (qT qS).mono c34.le f_parts
          refine if_b hm (fun b37 hm => ?_) (fun b37 hm => ?_)
          · skip
            cases hm
            refine rd_ret ?_
            refine rd_c ?_
            exact hQ _ _ _ S36 rfl
          · skip
            have f38 : qTh.r K F32 (V.str (t1)) (Th.d (PyData.str (t1))) := (show qTh.r K F32 _ (Th.d (PyData.str (t1))) from Dp.str _)
            obtain ⟨t39, e40, hm⟩ := bd_some hm
            refine rd_next ?_
            refine rd_ret ?_
            refine rd_andV ?_
            refine rd_call ?_
            refine rd_cons ?_
            refine rd_v rfl ?_
            refine rd_nil ?_
            refine ⟨F32, _, _, t39, rfl, S36.sub, f38, e40, fun v44 F41 H42 c43 f45 => ?_⟩
            have S46 := S36.call0 c43
            have f_parts := (qT qS).mono c43.le f_parts
            cases (show v44 = (V.bl (t39)) from f45)
            obtain ⟨t48, e49, hm⟩ := bd_some hm
            refine rd_b ?_
            refine andV_j (fun c H' => c = V.bl t48 ∧ ∃ F', Sx P0 F41 H42 F' H') ?_ ?_ ?_
            · intro b50 Q51 q52
              have e49 := if_t e49 b50
              have S53 := Sx.refl0 S46.sub
              obtain ⟨g54, e49⟩ := gd_some e49
              cases e49
              refine rd_op ?_
              refine rd_cb ?_
              refine rd_cons ?_
              refine rd_v rfl ?_
              refine rd_nil ?_
              refine rd_lenS g54 ?_
              refine rd_c ?_
              refine rd_I0 ?_
              exact q52 _ _ ⟨rfl, F41, S53⟩
            · intro b50
              have e49 := if_f e49 b50
              cases e49
              have S55 := Sx.refl0 S46.sub
              exact ⟨rfl, F41, S55⟩
            rintro b59 H57 ⟨rfl, F56, c58⟩
            have S60 := S46.call0 c58
            have f_parts := (qT qS).mono c58.le f_parts
            cases hm
            exact hQ _ _ _ S60 rfl
def sp_Form___init__ (K : PySem.W.Frag) : Sp := fun vs H Q _ => ∃ (F : Hp) (p_self : Addr) (dx : Addr) (v_parts : V) (a_parts : (List Str)) (r : (List Str)), vs = [.ref p_self, v_parts] ∧ Same F H ∧ Ow (fun a => a = p_self) H F H p_self (.ins (He.ga K "Form") dx []) ∧ (qT qS).r K F v_parts a_parts ∧ m_Form___init__ a_parts = some r ∧ ∀ (F' H' : Hp) (u0 : V), Sx (fun a => a = p_self) F H F' H' → Ow (fun a => a = p_self) H F' H' p_self (.ins (He.ga K "Form") dx [("pieces", u0)]) → (qT qS).r K F' u0 r → Q .non H'
theorem sc_Form___init__ : FnScope ["self", "parts", "at"] ["self", "parts"] (defScope s_Form___init__) := ⟨rfl, rfl, rfl, by decide +kernel, rfl, by decide +kernel, by decide +kernel⟩
theorem ok_Form___init__ (T : Tx P K mg) : FnR P w K mg base CX0 3 (He.fAd K ("Form", some "__init__")) (starSp 1 (sp_Form___init__ K)) := by
  obtain ⟨oc, od, dV, kV, doc, pm, an, cdv, ct, osl, efd, lk, hcd, hD, _⟩ := T.F_Form___init__.ex
  rw [efd] at lk
  obtain ⟨_, rfl⟩ | ⟨nD, _⟩ := hD
  rotate_left
  · exact absurd rfl nD
  refine StX.fn_star (ps := ["self"]) (pv := "parts") lk hcd sc_Form___init__ StX.cxUp_none (fun us rest hl => StX.bind_star1 (p1 := "self") (pv := "parts") (B := fun us => bindArgs (PySem.W.fnOf _ _ _ _ _ .none kV doc pm an cdv ct) ⟨us, []⟩) (fun a => by rfl) (fun a r rs => by rfl) us rest hl) (fun A outer s H0 vs Q E hr h => ?_)
  · obtain ⟨F0, p_self, dx, v_parts, a_parts, r, rfl, hE, w_self, f_parts, hm, hQ⟩ := h
    refine ⟨_, PSs.nox ((pss_cons (ps_if (pt_cmpR op_eqI (pe_callB (r := rLenQ K) cr_lenQ (by rfl) T.n_len (by decide +kernel) (pa_cons (pv 1) pa_nil)) pe_int (nomark _)) (pss_one ps_dead) pss_nil) (pss_cons (ps_for PassesOwn.never rfl (pi_range1 (by rfl) T.n_range (pa_cons (pe_callB (r := rLenQ K) cr_lenQ (by rfl) T.n_len (by decide +kernel) (pa_cons (pv 1) pa_nil)) pa_nil)) (pg_name (i := 2) sc_Form___init__.nd rfl (dk rfl)) (pss_one (ps_if (pt_not (pt_val (pe_call (ok_is_allowed T) (hr.mono (by decide)) (by rfl) T.g_is_allowed T.F_is_allowed.kp (bn_is_allowed T) .nil pass0 (pa_cons (pv 1) (pa_cons (pv 2) pa_nil))))) (pss_one ps_dead) pss_nil))) (pss_one (ps_fld (pv 0) (pv 1) rfl))))), ?_⟩
    have S : Sx (fun a => a = p_self) F0 H0 F0 H0 := Sx.refl hE (live1 w_self)
    unfold m_Form___init__ at hm
    refine rd_seq ?_
    refine rd_ifS ?_
    refine rd_test ?_
    refine rd_op ?_
    refine rd_cb ?_
    refine rd_cons ?_
    refine rd_v rfl ?_
    refine rd_nil ?_
    refine rd_lenQ (S.t f_parts).q ?_
    refine rd_c ?_
    refine rd_I0 ?_
    refine rd_b ?_
    refine if_b hm (fun b1 hm => ?_) (fun b1 hm => ?_)
    · skip
      cases hm
    · skip
      obtain ⟨g2, hm⟩ := gd_some hm
      refine rd_next ?_
      refine rd_seq ?_
      refine rd_for ?_
      refine rd_iR1 ?_
      refine rd_cons ?_
      refine rd_cb ?_
      refine rd_cons ?_
      refine rd_v rfl ?_
      refine rd_nil ?_
      refine rd_lenQ (S.t f_parts).q ?_
      refine rd_nil ?_
      refine rd_r1 g2 ?_
      obtain ⟨t3, e4, hm⟩ := bd_some hm
      refine rd_forS feedsRg (typedR (K := K) (F := F0)) e4 (fun (s5 : Unit) σ H => ∃ (F : Hp) (o2 : Option V), σ = [some (V.ref p_self), some v_parts, o2] ∧ Sx P0 F0 H0 F H) ?_ ?_ ?_ ?_
      · intro _ _ _ _; trivial
      · skip
        have S7 := Sx.refl0 S.sub
        exact ⟨F0, _, rfl, S7⟩
      · skip
        rintro x8 v9 s10 c14 σ11 H12 f13 ⟨F15, o17, rfl, S16⟩ hm20
        have f_parts := (qT qS).mono S16.le f_parts
        have w_self := w_self.call0 S16
        unfold m_Form___init___b1 at hm20
        cases (show v9 = (V.int (x8)) from f13)
        obtain ⟨t21, e22, hm20⟩ := bd_some hm20
        refine rd_gn ?_
        refine rd_ifS ?_
        refine rd_not ?_
        refine rd_tB ?_
        refine rd_call ?_
        refine rd_cons ?_
        refine rd_v rfl ?_
        refine rd_cons ?_
        refine rd_v rfl ?_
        refine rd_nil ?_
        refine ⟨F15, _, _, _, t21, rfl, S16.sub, f_parts, e22, fun v26 F23 H24 c25 f27 => ?_⟩
        have S28 := S16.call0 c25
        have f_parts := (qT qS).mono c25.le f_parts
        have w_self := w_self.call0 c25
        cases (show v26 = (V.bl (t21)) from f27)
        refine rd_b ?_
        refine if_b hm20 (fun b29 hm20 => ?_) (fun b29 hm20 => ?_)
        · skip
          cases hm20
        · skip
          cases hm20
          refine rd_next ?_
          exact ⟨F23, _, rfl, S28⟩
      · skip
        rintro σ30 H31 ⟨F32, o34, rfl, S33⟩
        have S35 := S.call0 S33
        have f_parts := (qT qS).mono S33.le f_parts
        have w_self := w_self.call0 S33
        refine rd_sfld ?_
        refine rd_v rfl ?_
        refine rd_v rfl ?_
        refine fset (fs' := [("pieces", v_parts)]) S35 w_self T.c_Form T.na_Form_pieces (by rfl) (by rfl) (fun H36 c37 w38 => ?_)
        have f39 : (qT qS).r K F32 v_parts a_parts := f_parts
        have S40 := S35.call1 c37 w_self
        have f_parts := (qT qS).mono c37.le f_parts
        have f39 := (qT qS).mono c37.le f39
        cases hm
        exact hQ _ _ v_parts S40 w38 f39
theorem new_Form {P0' : Addr → Prop} {F0 H0 F H : Hp} {Q : VK} {E : XK} {vs : List V} {xs : List Str} {r : (List Str)} (S : Sx P0' F0 H0 F H) (row : Row qS K F vs xs) (hl : Nat.ble vs.length 900 = true) (hm : m_Form___init__ xs = some r) (k : ∀ v F' H', Sx P0 F H F' H' → qForm.r K F' v r → Q v H') : mkK (He.ga K "Form") (starSp 1 (sp_Form___init__ K)) E Q vs H := by
  refine mk_star S row hl fun x dx v F1 H1 hx c1 w rv => ?_
  refine ⟨F1, x, dx, v, xs, r, rfl, c1.sub, w, rv, hm, fun F' H' u0 c w' k0 => ⟨rfl, ?_⟩⟩
  obtain ⟨F2, S2, le, h3⟩ := fzI c1 hx c w'
  exact k _ F2 H' S2 ⟨x, dx, u0, rfl, h3, (qT qS).mono le k0⟩
def sp_law_form (K : PySem.W.Frag) : Sp := fun vs H Q _ => ∃ (F : Hp) (v__law_parts_here : V) (a__law_parts_here : (List Str)) (r : (List Str)), vs = [v__law_parts_here] ∧ Same F H ∧ (qL qS).r K F v__law_parts_here a__law_parts_here ∧ m_law_form a__law_parts_here = some r ∧ ∀ v F' H', Sx P0 F H F' H' → qForm.r K F' v r → Q v H'
theorem sc_law_form : FnScope ["_law_parts_here"] ["_law_parts_here"] (defScope s_law_form) := ⟨rfl, rfl, rfl, by decide +kernel, rfl, by decide +kernel, by decide +kernel⟩
theorem bn_law_form (T : Tx P K mg) : Binds K (fdOf K ("_law_form", none)) ["_law_parts_here"] [] := FunD.bindsN T.F_law_form fun _ _ _ _ _ _ us hl => match us, hl with | [_], _ => rfl
theorem ok_law_form (T : Tx P K mg) : FnOk P w K mg base CX0 5 (He.ga K "_law_form") (fdOf K ("_law_form", none)) ["_law_parts_here"] (sp_law_form K) := by
  refine FunD.ok T.F_law_form sc_law_form (fun vs H0 Q E h => ?_) (fun cdv A outer s H0 vs Q E hr h => ?_)
  · obtain ⟨_, _, _, _, rfl, _⟩ := h
    rfl
  · obtain ⟨F0, v__law_parts_here, a__law_parts_here, r, rfl, hE, f__law_parts_here, hm, hQ⟩ := h
    refine ⟨_, PSs.nox ((pss_cons (ps_if (pt_cmpR op_eqI (pe_callB (r := rLenQ K) cr_lenQ (by rfl) T.n_len (by decide +kernel) (pa_cons (pv 0) pa_nil)) pe_int (nomark _)) (pss_one (ps_ret (StX.pe_makeR T.mk_Form (ok_Form___init__ T) (hr.mono (by decide)) (by rfl) T.gc_Form pass0 (pa_cons (pe_ix (r := rIxL K) ix_list (pv 0) pe_int (fun _ _ => rfl)) pa_nil)))) pss_nil) (pss_cons (ps_if (pt_cmpR op_eqI (pe_callB (r := rLenQ K) cr_lenQ (by rfl) T.n_len (by decide +kernel) (pa_cons (pv 0) pa_nil)) pe_int (nomark _)) (pss_one (ps_ret (StX.pe_makeR T.mk_Form (ok_Form___init__ T) (hr.mono (by decide)) (by rfl) T.gc_Form pass0 (pa_cons (pe_ix (r := rIxL K) ix_list (pv 0) pe_int (fun _ _ => rfl)) (pa_cons (pe_ix (r := rIxL K) ix_list (pv 0) pe_int (fun _ _ => rfl)) pa_nil))))) pss_nil) (pss_one (ps_ret (StX.pe_makeR T.mk_Form (ok_Form___init__ T) (hr.mono (by decide)) (by rfl) T.gc_Form pass0 (pa_cons (pe_ix (r := rIxL K) ix_list (pv 0) pe_int (fun _ _ => rfl)) (pa_cons (pe_ix (r := rIxL K) ix_list (pv 0) pe_int (fun _ _ => rfl)) (pa_cons (pe_ix (r := rIxL K) ix_list (pv 0) pe_int (fun _ _ => rfl)) pa_nil))))))))), ?_⟩
    have S : Sx P0 F0 H0 F0 H0 := Sx.refl0 hE
    unfold m_law_form at hm
    refine rd_seq ?_
    refine rd_ifS ?_
    refine rd_test ?_
    refine rd_op ?_
    refine rd_cb ?_
    refine rd_cons ?_
    refine rd_v rfl ?_
    refine rd_nil ?_
    refine rd_lenQ (S.l f__law_parts_here).r.q ?_
    refine rd_c ?_
    refine rd_I0 ?_
    refine rd_b ?_
    refine if_b hm (fun b1 hm => ?_) (fun b1 hm => ?_)
    · skip
      obtain ⟨t2, e3, hm⟩ := bd_some hm
      refine rd_ret ?_
      refine rd_makeR ?_
      refine rd_cons ?_
      refine rd_op ?_
      refine rd_v rfl ?_
      refine rd_c ?_
      refine rd_ixL (S.l f__law_parts_here).r e3 (fun u4 f5 => ?_)
      cases (show u4 = (V.str (t2)) from f5)
      obtain ⟨t6, e7, hm⟩ := bd_some hm
      refine rd_nil ?_
      refine new_Form S (.cons rfl .nil) rfl e7 (fun v8 F9 H10 c11 f12 => ?_)
      have S13 := S.call0 c11
      have f__law_parts_here := (qL qS).mono c11.le f__law_parts_here
      cases hm
      exact hQ _ _ _ S13 f12
    · skip
      refine rd_next ?_
      refine rd_seq ?_
      refine rd_ifS ?_
      refine rd_test ?_
      refine rd_op ?_
      refine rd_cb ?_
      refine rd_cons ?_
      refine rd_v rfl ?_
      refine rd_nil ?_
      refine rd_lenQ (S.l f__law_parts_here).r.q ?_
      refine rd_c ?_
      refine rd_I0 ?_
      refine rd_b ?_
      refine if_b hm (fun b14 hm => ?_) (fun b14 hm => ?_)
      · skip
        obtain ⟨t15, e16, hm⟩ := bd_some hm
        refine rd_ret ?_
        refine rd_makeR ?_
        refine rd_cons ?_
        refine rd_op ?_
        refine rd_v rfl ?_
        refine rd_c ?_
        refine rd_ixL (S.l f__law_parts_here).r e16 (fun u17 f18 => ?_)
        cases (show u17 = (V.str (t15)) from f18)
        obtain ⟨t19, e20, hm⟩ := bd_some hm
        refine rd_cons ?_
        refine rd_op ?_
        refine rd_v rfl ?_
        refine rd_c ?_
        refine rd_ixL (S.l f__law_parts_here).r e20 (fun u21 f22 => ?_)
        cases (show u21 = (V.str (t19)) from f22)
        obtain ⟨t23, e24, hm⟩ := bd_some hm
        refine rd_nil ?_
        refine new_Form S (.cons rfl (.cons rfl .nil)) rfl e24 (fun v25 F26 H27 c28 f29 => ?_)
        have S30 := S.call0 c28
        have f__law_parts_here := (qL qS).mono c28.le f__law_parts_here
        cases hm
        exact hQ _ _ _ S30 f29
      · skip
        obtain ⟨t31, e32, hm⟩ := bd_some hm
        refine rd_next ?_
        refine rd_ret ?_
        refine rd_makeR ?_
        refine rd_cons ?_
        refine rd_op ?_
        refine rd_v rfl ?_
        refine rd_c ?_
        refine rd_ixL (S.l f__law_parts_here).r e32 (fun u33 f34 => ?_)
        cases (show u33 = (V.str (t31)) from f34)
        obtain ⟨t35, e36, hm⟩ := bd_some hm
        refine rd_cons ?_
        refine rd_op ?_
        refine rd_v rfl ?_
        refine rd_c ?_
        refine rd_ixL (S.l f__law_parts_here).r e36 (fun u37 f38 => ?_)
        cases (show u37 = (V.str (t35)) from f38)
        obtain ⟨t39, e40, hm⟩ := bd_some hm
        refine rd_cons ?_
        refine rd_op ?_
        refine rd_v rfl ?_
        refine rd_c ?_
        refine rd_ixL (S.l f__law_parts_here).r e40 (fun u41 f42 => ?_)
        cases (show u41 = (V.str (t39)) from f42)
        obtain ⟨t43, e44, hm⟩ := bd_some hm
        refine rd_nil ?_
        refine new_Form S (.cons rfl (.cons rfl (.cons rfl .nil))) rfl e44 (fun v45 F46 H47 c48 f49 => ?_)
        have S50 := S.call0 c48
        have f__law_parts_here := (qL qS).mono c48.le f__law_parts_here
        cases hm
        exact hQ _ _ _ S50 f49
def sp_law_take (K : PySem.W.Frag) : Sp := fun vs H Q _ => ∃ (F : Hp) (p__law_pool_here : Addr) (a__law_pool_here : Int × Int) (a__law_many : Int) (r : (Int × (Int × Int))), vs = [.ref p__law_pool_here, (V.int (a__law_many))] ∧ Same F H ∧ Ow (fun a => a = p__law_pool_here) H F H p__law_pool_here (.lst [.int a__law_pool_here.1, .int a__law_pool_here.2]) ∧ m_law_take a__law_pool_here a__law_many = some r ∧ ∀ v F' H', Sx (fun a => a = p__law_pool_here) F H F' H' → Ow (fun a => a = p__law_pool_here) H F' H' p__law_pool_here (.lst [.int r.2.1, .int r.2.2]) → qI.r K F' v r.1 → Q v H'
theorem sc_law_take : FnScope ["_law_pool_here", "_law_many", "_law_digit"] ["_law_pool_here", "_law_many"] (defScope s_law_take) := ⟨rfl, rfl, rfl, by decide +kernel, rfl, by decide +kernel, by decide +kernel⟩
theorem bn_law_take (T : Tx P K mg) : Binds K (fdOf K ("_law_take", none)) ["_law_pool_here", "_law_many"] [] := FunD.bindsN T.F_law_take fun _ _ _ _ _ _ us hl => match us, hl with | [_, _], _ => rfl
theorem ok_law_take (T : Tx P K mg) : FnOk P w K mg base CX0 1 (He.ga K "_law_take") (fdOf K ("_law_take", none)) ["_law_pool_here", "_law_many"] (sp_law_take K) := by
  refine FunD.ok T.F_law_take sc_law_take (fun vs H0 Q E h => ?_) (fun cdv A outer s H0 vs Q E hr h => ?_)
  · obtain ⟨_, _, _, _, _, rfl, _⟩ := h
    rfl
  · obtain ⟨F0, p__law_pool_here, a__law_pool_here, a__law_many, r, rfl, hE, w__law_pool_here, hm, hQ⟩ := h
    refine ⟨_, PSs.nox ((pss_cons (ps_if (pt_cmpR op_gt (pe_ix (r := rIxL K) ix_list (pv 0) pe_int (fun _ _ => rfl)) pe_int (nomark _)) (pss_cons (ps_set (i := 2) sc_law_take.nd rfl (dk rfl) (pe_op op_mod (pe_callTy cr_int (by rfl) T.n_int (by decide +kernel) (pa_cons (pe_ix (r := rIxL K) ix_list (pv 0) pe_int (fun _ _ => rfl)) pa_nil)) (pv 1))) (pss_cons (ps_asg (pe_op op_fdiv (pe_ix (r := rIxL K) ix_list (pv 0) pe_int (fun _ _ => rfl)) (pv 1)) (pg_sub (pv 0) pe_int set_list)) (pss_one (ps_ret (pv 2))))) pss_nil) (pss_cons (ps_asg (pe_op op_mod (pe_callTy cr_int (by rfl) T.n_int (by decide +kernel) (pa_cons (pe_op op_add (pe_op op_mul (pe_ix (r := rIxL K) ix_list (pv 0) pe_int (fun _ _ => rfl)) pe_int) pe_int) pa_nil)) pe_int) (pg_sub (pv 0) pe_int set_list)) (pss_one (ps_ret (pe_op op_mod (pe_callTy cr_int (by rfl) T.n_int (by decide +kernel) (pa_cons (pe_op op_fdiv (pe_op op_mod (pe_callTy cr_int (by rfl) T.n_int (by decide +kernel) (pa_cons (pe_op op_mul (pe_ix (r := rIxL K) ix_list (pv 0) pe_int (fun _ _ => rfl)) (pe_ix (r := rIxL K) ix_list (pv 0) pe_int (fun _ _ => rfl))) pa_nil)) pe_int) pe_int) pa_nil)) (pv 1))))))), ?_⟩
    have S : Sx (fun a => a = p__law_pool_here) F0 H0 F0 H0 := Sx.refl hE (live1 w__law_pool_here)
    unfold m_law_take at hm
    refine rd_seq ?_
    refine rd_ifS ?_
    refine rd_test ?_
    refine rd_op ?_
    refine rd_op ?_
    refine rd_v rfl ?_
    refine rd_c ?_
    refine pool0 w__law_pool_here ?_
    refine rd_c ?_
    refine rd_I0 ?_
    refine rd_b ?_
    refine if_b hm (fun b1 hm => ?_) (fun b1 hm => ?_)
    · skip
      obtain ⟨g2, hm⟩ := gd_some hm
      obtain ⟨g3, hm⟩ := gd_some hm
      refine rd_seq ?_
      refine rd_asg ?_
      refine rd_op ?_
      refine rd_cb ?_
      refine rd_cons ?_
      refine rd_op ?_
      refine rd_v rfl ?_
      refine rd_c ?_
      refine pool0 w__law_pool_here ?_
      refine rd_nil ?_
      refine rd_intI ?_
      refine rd_v rfl ?_
      refine rd_I (modOk_of g2) ?_
      refine rd_gn ?_
      refine rd_seq ?_
      refine rd_asg ?_
      refine rd_op ?_
      refine rd_op ?_
      refine rd_v rfl ?_
      refine rd_c ?_
      refine pool0 w__law_pool_here ?_
      refine rd_v rfl ?_
      refine rd_I (divOk_of g3) ?_
      refine rd_gsub ?_
      refine rd_v rfl ?_
      refine rd_c ?_
      refine pset0 S w__law_pool_here (fun H4 c5 w6 => ?_)
      have S7 := S.call1 c5 w__law_pool_here
      cases hm
      refine rd_ret ?_
      refine rd_v rfl ?_
      exact hQ _ _ _ S7 w6 rfl
    · skip
      obtain ⟨g8, hm⟩ := gd_some hm
      obtain ⟨g9, hm⟩ := gd_some hm
      refine rd_next ?_
      refine rd_seq ?_
      refine rd_asg ?_
      refine rd_op ?_
      refine rd_cb ?_
      refine rd_cons ?_
      refine rd_op ?_
      refine rd_op ?_
      refine rd_op ?_
      refine rd_v rfl ?_
      refine rd_c ?_
      refine pool1 w__law_pool_here ?_
      refine rd_c ?_
      refine rd_I (mulOk_of g8) ?_
      refine rd_c ?_
      refine rd_I0 ?_
      refine rd_nil ?_
      refine rd_intI ?_
      refine rd_c ?_
      refine rd_I (modOk_of g9) ?_
      refine rd_gsub ?_
      refine rd_v rfl ?_
      refine rd_c ?_
      refine pset1 S w__law_pool_here (fun H10 c11 w12 => ?_)
      have S13 := S.call1 c11 w__law_pool_here
      obtain ⟨g14, hm⟩ := gd_some hm
      obtain ⟨g15, hm⟩ := gd_some hm
      obtain ⟨g16, hm⟩ := gd_some hm
      obtain ⟨g17, hm⟩ := gd_some hm
      cases hm
      refine rd_ret ?_
      refine rd_op ?_
      refine rd_cb ?_
      refine rd_cons ?_
      refine rd_op ?_
      refine rd_op ?_
      refine rd_cb ?_
      refine rd_cons ?_
      refine rd_op ?_
      refine rd_op ?_
      refine rd_v rfl ?_
      refine rd_c ?_
      refine pool1 w12 ?_
      refine rd_op ?_
      refine rd_v rfl ?_
      refine rd_c ?_
      refine pool1 w12 ?_
      refine rd_I (mulOk_of g14) ?_
      refine rd_nil ?_
      refine rd_intI ?_
      refine rd_c ?_
      refine rd_I (modOk_of g15) ?_
      refine rd_c ?_
      refine rd_I (divOk_of g16) ?_
      refine rd_nil ?_
      refine rd_intI ?_
      refine rd_v rfl ?_
      refine rd_I (modOk_of g17) ?_
      exact hQ _ _ _ S13 w12 rfl
def sp_law_value (K : PySem.W.Frag) : Sp := fun vs H Q _ => ∃ (F : Hp) (p__law_pool_here : Addr) (a__law_pool_here : Int × Int) (a__law_k : Int) (r : (Th × (Int × Int))), vs = [.ref p__law_pool_here, (V.int (a__law_k))] ∧ Same F H ∧ Ow (fun a => a = p__law_pool_here) H F H p__law_pool_here (.lst [.int a__law_pool_here.1, .int a__law_pool_here.2]) ∧ m_law_value a__law_pool_here a__law_k = some r ∧ ∀ v F' H', Sx (fun a => a = p__law_pool_here) F H F' H' → Ow (fun a => a = p__law_pool_here) H F' H' p__law_pool_here (.lst [.int r.2.1, .int r.2.2]) → qTh.r K F' v r.1 → Q v H'
theorem sc_law_value : FnScope ["_law_pool_here", "_law_k", "_law_kind"] ["_law_pool_here", "_law_k"] (defScope s_law_value) := ⟨rfl, rfl, rfl, by decide +kernel, rfl, by decide +kernel, by decide +kernel⟩
theorem bn_law_value (T : Tx P K mg) : Binds K (fdOf K ("_law_value", none)) ["_law_pool_here", "_law_k"] [] := FunD.bindsN T.F_law_value fun _ _ _ _ _ _ us hl => match us, hl with | [_, _], _ => rfl
theorem ok_law_value (T : Tx P K mg) : FnOk P w K mg base CX0 2 (He.ga K "_law_value") (fdOf K ("_law_value", none)) ["_law_pool_here", "_law_k"] (sp_law_value K) := by
  refine FunD.ok T.F_law_value sc_law_value (fun vs H0 Q E h => ?_) (fun cdv A outer s H0 vs Q E hr h => ?_)
  · obtain ⟨_, _, _, _, _, rfl, _⟩ := h
    rfl
  · obtain ⟨F0, p__law_pool_here, a__law_pool_here, a__law_k, r, rfl, hE, w__law_pool_here, hm, hQ⟩ := h
    refine ⟨_, PSs.nox ((pss_cons (ps_set (i := 2) sc_law_value.nd rfl (dk rfl) (pe_call (ok_law_take T) (hr.mono (by decide)) (by rfl) T.g_law_take T.F_law_take.kp (bn_law_take T) .nil pass0 (pa_cons (pv 0) (pa_cons pe_int pa_nil)))) (pss_cons (ps_if (pt_cmpR op_eqI (pv 2) pe_int (nomark _)) (pss_one (ps_ret (pe_ix (r := rIxL K) ix_list (pe_lst (pa_cons pe_non (pa_cons pe_bl (pa_cons pe_bl (pa_cons pe_str (pa_cons pe_str (pa_cons (pe_tup pa_nil) pa_nil))))))) (pe_call (ok_law_take T) (hr.mono (by decide)) (by rfl) T.g_law_take T.F_law_take.kp (bn_law_take T) .nil pass0 (pa_cons (pv 0) (pa_cons pe_int pa_nil))) (fun _ _ => rfl)))) pss_nil) (pss_cons (ps_if (pt_cmpR (r := rIn K false) op_in_seq (pv 1) (pe_tup (pa_cons pe_int (pa_cons pe_int pa_nil))) rfl) (pss_cons (ps_if (pt_cmpR op_eqI (pv 2) pe_int (nomark _)) (pss_one (ps_ret (pe_call (ok_law_take T) (hr.mono (by decide)) (by rfl) T.g_law_take T.F_law_take.kp (bn_law_take T) .nil pass0 (pa_cons (pv 0) (pa_cons pe_int pa_nil))))) pss_nil) (pss_one (ps_ret (pe_cmpR op_eqI (pe_op op_mod (pv 2) pe_int) pe_int (nomark _))))) pss_nil) (pss_cons (ps_if (pt_cmpR op_eqI (pv 2) pe_int (nomark _)) (pss_one (ps_ret (pe_op op_sub (pe_call (ok_law_take T) (hr.mono (by decide)) (by rfl) T.g_law_take T.F_law_take.kp (bn_law_take T) .nil pass0 (pa_cons (pv 0) (pa_cons pe_int pa_nil))) pe_int))) pss_nil) (pss_cons (ps_if (pt_cmpR op_eqI (pv 2) pe_int (nomark _)) (pss_one (ps_ret pe_non)) pss_nil) (pss_one (ps_ret (pe_op op_add pe_int (pe_call (ok_law_take T) (hr.mono (by decide)) (by rfl) T.g_law_take T.F_law_take.kp (bn_law_take T) .nil pass0 (pa_cons (pv 0) (pa_cons pe_int pa_nil)))))))))))), ?_⟩
    have S : Sx (fun a => a = p__law_pool_here) F0 H0 F0 H0 := Sx.refl hE (live1 w__law_pool_here)
    unfold m_law_value at hm
    obtain ⟨t1, e2, hm⟩ := bd_some hm
    refine rd_seq ?_
    refine rd_asg ?_
    refine rd_call ?_
    refine rd_cons ?_
    refine rd_v rfl ?_
    refine rd_cons ?_
    refine rd_c ?_
    refine rd_nil ?_
    refine ⟨F0, _, _, _, t1, rfl, S.sub, w__law_pool_here.arg, e2, fun v6 F3 H4 c5 w8 f7 => ?_⟩
    have S9 := S.call1 c5 w__law_pool_here
    have w10 := w__law_pool_here.back w8
    cases (show v6 = (V.int (t1.1)) from f7)
    refine rd_gn ?_
    refine rd_seq ?_
    refine rd_ifS ?_
    refine rd_test ?_
    refine rd_op ?_
    refine rd_v rfl ?_
    refine rd_c ?_
    refine rd_I0 ?_
    refine rd_b ?_
    refine if_b hm (fun b11 hm => ?_) (fun b11 hm => ?_)
    · skip
      refine rd_ret ?_
      refine rd_op ?_
      refine rd_lst ?_
      refine rd_cons ?_
      refine rd_c ?_
      refine rd_cons ?_
      refine rd_c ?_
      refine rd_cons ?_
      refine rd_c ?_
      refine rd_cons ?_
      refine rd_c ?_
      refine rd_cons ?_
      refine rd_c ?_
      refine rd_cons ?_
      refine rd_tup ?_
      refine rd_nil ?_
      refine rd_uK rfl ?_
      refine alT (K := K) (A := qI) (xs := ([] : List Int)) S9 .nil (fun v12 F13 H14 c15 f16 => ?_)
      have S17 := S9.call0 c15
      have w10 := w10.call0 c15
      refine rd_nil ?_
      refine rd_lK rfl ?_
      refine alL (K := K) (A := qTh) (xs := [(Th.d (PyData.none)), (Th.d (PyData.bool (true))), (Th.d (PyData.bool (false))), (Th.d (PyData.str (("" : Str)))), (Th.d (PyData.str (("2" : Str)))), (Th.d ((dT dI).d ([] : List Int)))]) S17 (.cons (show qTh.r K F13 _ (Th.d (PyData.none)) from Dp.non) (.cons (show qTh.r K F13 _ (Th.d (PyData.bool (true))) from Dp.bl _) (.cons (show qTh.r K F13 _ (Th.d (PyData.bool (false))) from Dp.bl _) (.cons (show qTh.r K F13 _ (Th.d (PyData.str (("" : Str)))) from Dp.str _) (.cons (show qTh.r K F13 _ (Th.d (PyData.str (("2" : Str)))) from Dp.str _) (.cons (show qTh.r K F13 _ (Th.d ((dT dI).d ([] : List Int))) from (dT dI).dp f16) .nil)))))) (fun v18 F19 H20 c21 f22 => ?_)
      have S23 := S17.call0 c21
      have w10 := w10.call0 c21
      obtain ⟨t24, e25, hm⟩ := bd_some hm
      refine rd_call ?_
      refine rd_cons ?_
      refine rd_v rfl ?_
      refine rd_cons ?_
      refine rd_c ?_
      refine rd_nil ?_
      refine ⟨F19, _, _, _, t24, rfl, S23.sub, w10.arg, e25, fun v29 F26 H27 c28 w31 f30 => ?_⟩
      have S32 := S23.call1 c28 w10
      have f22 := (qL qTh).mono c28.le f22
      have w33 := w10.back w31
      cases (show v29 = (V.int (t24.1)) from f30)
      obtain ⟨t34, e35, hm⟩ := bd_some hm
      refine rd_ixL (S32.l f22).r e35 (fun u36 f37 => ?_)
      cases hm
      exact hQ _ _ _ S32 w33 f37
    · skip
      refine rd_next ?_
      refine rd_seq ?_
      refine rd_ifS ?_
      refine rd_test ?_
      refine rd_op ?_
      refine rd_v rfl ?_
      refine rd_tup ?_
      refine rd_cons ?_
      refine rd_c ?_
      refine rd_cons ?_
      refine rd_c ?_
      refine rd_nil ?_
      refine rd_uK rfl ?_
      refine alT (K := K) (A := qI) (xs := ([1, 3] : List Int)) S9 (.cons rfl (.cons rfl .nil)) (fun v38 F39 H40 c41 f42 => ?_)
      have S43 := S9.call0 c41
      have w10 := w10.call0 c41
      refine rd_inI (S43.t f42).q ?_
      refine rd_b ?_
      refine if_b hm (fun b44 hm => ?_) (fun b44 hm => ?_)
      · skip
        refine rd_seq ?_
        refine rd_ifS ?_
        refine rd_test ?_
        refine rd_op ?_
        refine rd_v rfl ?_
        refine rd_c ?_
        refine rd_I0 ?_
        refine rd_b ?_
        refine if_b hm (fun b45 hm => ?_) (fun b45 hm => ?_)
        · skip
          obtain ⟨t46, e47, hm⟩ := bd_some hm
          refine rd_ret ?_
          refine rd_call ?_
          refine rd_cons ?_
          refine rd_v rfl ?_
          refine rd_cons ?_
          refine rd_c ?_
          refine rd_nil ?_
          refine ⟨F39, _, _, _, t46, rfl, S43.sub, w10.arg, e47, fun v51 F48 H49 c50 w53 f52 => ?_⟩
          have S54 := S43.call1 c50 w10
          have w55 := w10.back w53
          cases (show v51 = (V.int (t46.1)) from f52)
          have f56 : qTh.r K F48 (V.int (t46.1)) (Th.d (PyData.int (t46.1))) := (show qTh.r K F48 _ (Th.d (PyData.int (t46.1))) from Dp.int _)
          cases hm
          exact hQ _ _ _ S54 w55 f56
        · skip
          obtain ⟨g57, hm⟩ := gd_some hm
          have f58 : qTh.r K F39 (V.bl ((decide ((t1.1 % 2) = 0)))) (Th.d (PyData.bool ((decide ((t1.1 % 2) = 0))))) := (show qTh.r K F39 _ (Th.d (PyData.bool ((decide ((t1.1 % 2) = 0))))) from Dp.bl _)
          cases hm
          refine rd_next ?_
          refine rd_ret ?_
          refine rd_op ?_
          refine rd_op ?_
          refine rd_v rfl ?_
          refine rd_c ?_
          refine rd_I (modOk_of g57) ?_
          refine rd_c ?_
          refine rd_I0 ?_
          exact hQ _ _ _ S43 w10 f58
      · skip
        refine rd_next ?_
        refine rd_seq ?_
        refine rd_ifS ?_
        refine rd_test ?_
        refine rd_op ?_
        refine rd_v rfl ?_
        refine rd_c ?_
        refine rd_I0 ?_
        refine rd_b ?_
        refine if_b hm (fun b59 hm => ?_) (fun b59 hm => ?_)
        · skip
          obtain ⟨t60, e61, hm⟩ := bd_some hm
          refine rd_ret ?_
          refine rd_op ?_
          refine rd_call ?_
          refine rd_cons ?_
          refine rd_v rfl ?_
          refine rd_cons ?_
          refine rd_c ?_
          refine rd_nil ?_
          refine ⟨F39, _, _, _, t60, rfl, S43.sub, w10.arg, e61, fun v65 F62 H63 c64 w67 f66 => ?_⟩
          have S68 := S43.call1 c64 w10
          have w69 := w10.back w67
          cases (show v65 = (V.int (t60.1)) from f66)
          have f70 : qTh.r K F62 (V.int ((t60.1 - 1))) (Th.d (PyData.int ((t60.1 - 1)))) := (show qTh.r K F62 _ (Th.d (PyData.int ((t60.1 - 1)))) from Dp.int _)
          cases hm
          refine rd_c ?_
          refine rd_I0 ?_
          exact hQ _ _ _ S68 w69 f70
        · skip
          refine rd_next ?_
          refine rd_seq ?_
          refine rd_ifS ?_
          refine rd_test ?_
          refine rd_op ?_
          refine rd_v rfl ?_
          refine rd_c ?_
          refine rd_I0 ?_
          refine rd_b ?_
          refine if_b hm (fun b71 hm => ?_) (fun b71 hm => ?_)
          · skip
            have f72 : qTh.r K F39 V.non (Th.d (PyData.none)) := (show qTh.r K F39 _ (Th.d (PyData.none)) from Dp.non)
            cases hm
            refine rd_ret ?_
            refine rd_c ?_
            exact hQ _ _ _ S43 w10 f72
          · skip
            obtain ⟨t73, e74, hm⟩ := bd_some hm
            refine rd_next ?_
            refine rd_ret ?_
            refine rd_op ?_
            refine rd_c ?_
            refine rd_call ?_
            refine rd_cons ?_
            refine rd_v rfl ?_
            refine rd_cons ?_
            refine rd_c ?_
            refine rd_nil ?_
            refine ⟨F39, _, _, _, t73, rfl, S43.sub, w10.arg, e74, fun v78 F75 H76 c77 w80 f79 => ?_⟩
            have S81 := S43.call1 c77 w10
            have w82 := w10.back w80
            cases (show v78 = (V.int (t73.1)) from f79)
            have f83 : qTh.r K F75 (V.int ((1 + t73.1))) (Th.d (PyData.int ((1 + t73.1)))) := (show qTh.r K F75 _ (Th.d (PyData.int ((1 + t73.1)))) from Dp.int _)
            cases hm
            refine rd_I0 ?_
            exact hQ _ _ _ S81 w82 f83
def sp_is_allowed_rules (K : PySem.W.Frag) : Sp := fun vs H Q _ => ∃ (F : Hp) (a_field : Str) (v_value : V) (a_value : Th) (r : Bool), vs = [(V.str (a_field)), v_value] ∧ Same F H ∧ qTh.r K F v_value a_value ∧ m_is_allowed_rules a_field a_value = some r ∧ ∀ v F' H', Sx P0 F H F' H' → qB.r K F' v r → Q v H'
theorem sc_is_allowed_rules : FnScope ["field", "value"] ["field", "value"] (defScope s_is_allowed_rules) := ⟨rfl, rfl, rfl, by decide +kernel, rfl, by decide +kernel, by decide +kernel⟩
theorem bn_is_allowed_rules (T : Tx P K mg) : Binds K (fdOf K ("is_allowed_rules", none)) ["field", "value"] [] := FunD.bindsN T.F_is_allowed_rules fun _ _ _ _ _ _ us hl => match us, hl with | [_, _], _ => rfl
theorem ok_is_allowed_rules (T : Tx P K mg) : FnOk P w K mg base CX0 1 (He.ga K "is_allowed_rules") (fdOf K ("is_allowed_rules", none)) ["field", "value"] (sp_is_allowed_rules K) := by
  refine FunD.ok T.F_is_allowed_rules sc_is_allowed_rules (fun vs H0 Q E h => ?_) (fun cdv A outer s H0 vs Q E hr h => ?_)
  · obtain ⟨_, _, _, _, _, rfl, _⟩ := h
    rfl
  · obtain ⟨F0, a_field, v_value, a_value, r, rfl, hE, f_value, hm, hQ⟩ := h
    refine ⟨_, PSs.nox ((pss_cons (ps_if (pt_cmpR (r := rIn K false) op_in_seq (pv 0) (pe_tup (pa_cons pe_str (pa_cons pe_str pa_nil))) rfl) (pss_one (ps_ret (pe_or (pe_cmpR op_isBv (pv 1) pe_bl (nomark _)) (pe_one (pe_cmpR op_isBv (pv 1) pe_bl (nomark _)))))) pss_nil) (pss_cons (ps_if (pt_cmpR op_isN' (pv 1) pe_non (nomark _)) (pss_one (ps_ret pe_bl)) pss_nil) (pss_cons (ps_if (PW.pt (pw_or (pt_not (pt_val (pe_callB (r := rIsi K) call_isi (by rfl) T.n_isinstance (by decide +kernel) (pa_cons (pv 1) (pa_cons (pe_bltn (v := V.ty "int") (by rfl) T.n_int (by decide +kernel) rfl) pa_nil))))) (pw_or1 (pt_val (pe_callB (r := rIsi K) call_isi (by rfl) T.n_isinstance (by decide +kernel) (pa_cons (pv 1) (pa_cons (pe_bltn (v := V.ty "bool") (by rfl) T.n_bool (by decide +kernel) rfl) pa_nil))))))) (pss_one (ps_ret pe_bl)) pss_nil) (pss_cons (ps_if (pt_cmpR op_eqS (pv 0) pe_str (nomark _)) (pss_one (ps_ret (pe_chain op_le op_le pe_int (pv 1) pe_int))) pss_nil) (pss_one (ps_ret (pe_chain op_le op_le pe_int (pv 1) pe_int)))))))), ?_⟩
    have S : Sx P0 F0 H0 F0 H0 := Sx.refl0 hE
    unfold m_is_allowed_rules at hm
    refine rd_seq ?_
    refine rd_ifS ?_
    refine rd_test ?_
    refine rd_op ?_
    refine rd_v rfl ?_
    refine rd_tup ?_
    refine rd_cons ?_
    refine rd_c ?_
    refine rd_cons ?_
    refine rd_c ?_
    refine rd_nil ?_
    refine rd_uK rfl ?_
    refine alT (K := K) (A := qS) (xs := [("alone" : Str), ("quiet" : Str)]) S (.cons rfl (.cons rfl .nil)) (fun v1 F2 H3 c4 f5 => ?_)
    have S6 := S.call0 c4
    have f_value := qTh.mono c4.le f_value
    refine rd_inS (S6.t f5).q ?_
    refine rd_b ?_
    refine if_b hm (fun b7 hm => ?_) (fun b7 hm => ?_)
    · skip
      cases hm
      refine rd_ret ?_
      refine rd_orV ?_
      refine rd_op ?_
      refine rd_v rfl ?_
      refine rd_c ?_
      refine rd_isBTh f_value ?_
      refine rd_b ?_
      refine orV_p (by intro _ Q' q; refine rd_op ?_; refine rd_v rfl ?_; refine rd_c ?_; refine rd_isBTh f_value ?_; exact q) ?_
      exact hQ _ _ _ S6 rfl
    · skip
      refine rd_next ?_
      refine rd_seq ?_
      refine rd_ifS ?_
      refine rd_test ?_
      refine rd_op ?_
      refine rd_v rfl ?_
      refine rd_c ?_
      refine rd_isNTh f_value ?_
      refine rd_b ?_
      refine if_b hm (fun b8 hm => ?_) (fun b8 hm => ?_)
      · skip
        cases hm
        refine rd_ret ?_
        refine rd_c ?_
        exact hQ _ _ _ S6 rfl
      · skip
        refine rd_next ?_
        refine rd_seq ?_
        refine rd_ifS ?_
        refine rd_or ?_
        refine rd_not ?_
        refine rd_tB ?_
        refine rd_cb ?_
        refine rd_cons ?_
        refine rd_v rfl ?_
        refine rd_cons ?_
        refine rd_c ?_
        refine rd_nil ?_
        refine rd_isiTh (n := "int") (tx_th S6 f_value) (by decide +kernel) ?_
        refine rd_b ?_
        refine or_p (by intro _ Q' q; refine rd_tB ?_; refine rd_cb ?_; refine rd_cons ?_; refine rd_v rfl ?_; refine rd_cons ?_; refine rd_c ?_; refine rd_nil ?_; refine rd_isiTh (n := "bool") (tx_th S6 f_value) (by decide +kernel) ?_; refine rd_b ?_; exact q) ?_
        refine if_b hm (fun b9 hm => ?_) (fun b9 hm => ?_)
        · skip
          cases hm
          refine rd_ret ?_
          refine rd_c ?_
          exact hQ _ _ _ S6 rfl
        · skip
          refine rd_next ?_
          refine rd_seq ?_
          refine rd_ifS ?_
          refine rd_test ?_
          refine rd_op ?_
          refine rd_v rfl ?_
          refine rd_c ?_
          refine rd_S0 ?_
          refine rd_b ?_
          refine if_b hm (fun b10 hm => ?_) (fun b10 hm => ?_)
          · skip
            obtain ⟨t11, e12, hm⟩ := bd_some hm
            have e13 := thI_fact f_value e12
            cases e13
            cases hm
            refine rd_ret ?_
            refine rd_chain ?_
            refine rd_c ?_
            refine rd_v rfl ?_
            refine rd_I0 ?_
            refine ch_at (c := decide (t11 ≤ 20)) (by intro Q9 k9; refine rd_c ?_; exact k9) (fun _ k9 => rd_I0 k9) ?_
            exact hQ _ _ _ S6 rfl
          · skip
            obtain ⟨t14, e15, hm⟩ := bd_some hm
            have e16 := thI_fact f_value e15
            cases e16
            cases hm
            refine rd_next ?_
            refine rd_ret ?_
            refine rd_chain ?_
            refine rd_c ?_
            refine rd_v rfl ?_
            refine rd_I0 ?_
            refine ch_at (c := decide (t14 ≤ 9)) (by intro Q9 k9; refine rd_c ?_; exact k9) (fun _ k9 => rd_I0 k9) ?_
            exact hQ _ _ _ S6 rfl
def sp_check_settings (K : PySem.W.Frag) : Sp := fun vs H Q _ => ∃ (F : Hp) (v_settings : V) (a_settings : (List (Str × Th))) (r : Unit), vs = [v_settings] ∧ Same F H ∧ qSd.r K F v_settings a_settings ∧ m_check_settings a_settings = some r ∧ ∀ v F' H', Sx P0 F H F' H' → qN.r K F' v r → Q v H'
theorem sc_check_settings : FnScope ["settings", "field"] ["settings"] (defScope s_check_settings) := ⟨rfl, rfl, rfl, by decide +kernel, rfl, by decide +kernel, by decide +kernel⟩
theorem bn_check_settings (T : Tx P K mg) : Binds K (fdOf K ("check_settings", none)) ["settings"] [] := FunD.bindsN T.F_check_settings fun _ _ _ _ _ _ us hl => match us, hl with | [_], _ => rfl
theorem ok_check_settings (T : Tx P K mg) : FnOk P w K mg base CX0 2 (He.ga K "check_settings") (fdOf K ("check_settings", none)) ["settings"] (sp_check_settings K) := by
  refine FunD.ok T.F_check_settings sc_check_settings (fun vs H0 Q E h => ?_) (fun cdv A outer s H0 vs Q E hr h => ?_)
  · obtain ⟨_, _, _, _, rfl, _⟩ := h
    rfl
  · obtain ⟨F0, v_settings, a_settings, r, rfl, hE, f_settings, hm, hQ⟩ := h
    refine ⟨_, PSs.nox ((pss_one (ps_for PassesOwn.never rfl (pi_tupK (pe_glob (v := V.ref (He.ga K "FIELDS")) (by rfl) T.g_FIELDS rfl)) (pg_name (i := 1) sc_check_settings.nd rfl (dk rfl)) (pss_one (ps_if (PW.pt (pw_and (pt_cmpR (op_dIn hr.units) (pv 1) (pv 0) rfl) (pw_and1 (pt_not (pt_val (pe_call (ok_is_allowed_rules T) (hr.mono (by decide)) (by rfl) T.g_is_allowed_rules T.F_is_allowed_rules.kp (bn_is_allowed_rules T) .nil pass0 (pa_cons (pv 1) (pa_cons (pe_dgetO hr.units (pv 0) (pv 1) (fun _ _ => rfl)) pa_nil)))))))) (pss_one ps_dead) pss_nil))))), ?_⟩
    have S : Sx P0 F0 H0 F0 H0 := Sx.refl0 hE
    unfold m_check_settings at hm
    have f1 : (qT qS).r K F0 (.ref (He.ga K "FIELDS")) (["most", "alone", "tags", "quiet"] : List Str) := T.q_FIELDS _
    refine rd_for ?_
    refine rd_iT ?_
    refine rd_c ?_
    refine rd_wTF S f1 (fun p2 vs3 hq4 row5 => ?_)
    obtain ⟨t6, e7, hm⟩ := bd_some hm
    refine rd_forS feedsT (typedRow row5) e7 (fun (s8 : Unit) σ H => ∃ (F : Hp) (o1 : Option V), σ = [some v_settings, o1] ∧ Sx P0 F0 H0 F H) ?_ ?_ ?_ ?_
    · rintro _ _ _ ⟨_, _, _, S9⟩
      exact (same_t S9.sub (same_t S9.le hq4))
    · skip
      have S10 := Sx.refl0 S.sub
      exact ⟨F0, _, rfl, S10⟩
    · skip
      rintro x11 v12 s13 c17 σ14 H15 f16 ⟨F18, o20, rfl, S19⟩ hm23
      have f_settings := qSd.mono S19.le f_settings
      unfold m_check_settings_b1 at hm23
      cases (show v12 = (V.str (x11)) from f16)
      obtain ⟨t36, e37, hm23⟩ := bd_some hm23
      refine rd_gn ?_
      refine rd_ifS ?_
      refine rd_and ?_
      refine rd_test ?_
      refine rd_op ?_
      refine rd_v rfl ?_
      refine rd_v rfl ?_
      refine rd_dInSd S19 f_settings ?_
      refine rd_b ?_
      refine and_j (fun c H' => c = t36 ∧ ∃ F', Sx P0 F18 H15 F' H') ?_ ?_ ?_
      · intro b38 Q39 q40
        have e37 := if_t e37 b38
        have S41 := Sx.refl0 S19.sub
        obtain ⟨t42, e43, e37⟩ := bd_some e37
        refine rd_not ?_
        refine rd_tB ?_
        refine rd_call ?_
        refine rd_cons ?_
        refine rd_v rfl ?_
        refine rd_cons ?_
        refine rd_op ?_
        refine rd_v rfl ?_
        refine rd_v rfl ?_
        refine rd_dgSd S41 f_settings e43 (fun u44 f45 => ?_)
        obtain ⟨t46, e47, e37⟩ := bd_some e37
        refine rd_nil ?_
        refine ⟨F18, _, _, _, t46, rfl, S41.sub, f45, e47, fun v51 F48 H49 c50 f52 => ?_⟩
        have S53 := S41.call0 c50
        have f_settings := qSd.mono c50.le f_settings
        cases (show v51 = (V.bl (t46)) from f52)
        cases e37
        refine rd_b ?_
        exact q40 _ _ ⟨rfl, F48, S53⟩
      · intro b38
        have e37 := if_f e37 b38
        cases e37
        have S54 := Sx.refl0 S19.sub
        exact ⟨rfl, F18, S54⟩
      rintro b58 H56 ⟨rfl, F55, c57⟩
      have S59 := S19.call0 c57
      have f_settings := qSd.mono c57.le f_settings
      refine if_b hm23 (fun b60 hm23 => ?_) (fun b60 hm23 => ?_)
      · skip
        cases hm23
      · skip
        cases hm23
        refine rd_next ?_
        exact ⟨F55, _, rfl, S59⟩
    · skip
      rintro σ61 H62 ⟨F63, o65, rfl, S64⟩
      have S66 := S.call0 S64
      have f_settings := qSd.mono S64.le f_settings
      cases hm
      exact hQ _ _ _ S66 rfl
def sp_check_settings_vx (K : PySem.W.Frag) : Sp := fun vs H Q E => ∃ (F : Hp) (v_settings : V) (a_settings : (List (Str × Th))) (rr : (Except Str Unit)), vs = [v_settings] ∧ Same F H ∧ qSd.r K F v_settings a_settings ∧ m_check_settings_vx a_settings = some rr ∧ (∀ r, rr = .ok r → ∀ v F' H', Sx P0 F H F' H' → qN.r K F' v r → Q v H') ∧ (∀ e cls d F' H', rr = .error e → Sx P0 F H F' H' → ErrAt K H' "NoRule" ["field"] [.str e] cls d → E cls d H')
theorem sc_check_settings_vx : FnScope ["settings", "field"] ["settings"] (defScope s_check_settings) := ⟨rfl, rfl, rfl, by decide +kernel, rfl, by decide +kernel, by decide +kernel⟩
theorem bn_check_settings_vx (T : Tx P K mg) : Binds K (fdOf K ("check_settings", none)) ["settings"] [] := FunD.bindsN T.F_check_settings fun _ _ _ _ _ _ us hl => match us, hl with | [_], _ => rfl
theorem ok_check_settings_vx (T : Tx P K mg) : FnOk P w K mg base (L2.CX P w) 3 (He.ga K "check_settings") (fdOf K ("check_settings", none)) ["settings"] (sp_check_settings_vx K) := by
  refine FunD.ok T.F_check_settings sc_check_settings_vx (fun vs H0 Q E h => ?_) (fun cdv A outer s H0 vs Q E hr h => ?_)
  · obtain ⟨_, _, _, _, rfl, _⟩ := h
    rfl
  · obtain ⟨F0, v_settings, a_settings, rr, rfl, hE, f_settings, hm, hQ, hX⟩ := h
    refine ⟨_, (pss_one (ps_for owns_cx rfl (pi_tupK (pe_glob (v := V.ref (He.ga K "FIELDS")) (by rfl) T.g_FIELDS rfl)) (pg_name (i := 1) sc_check_settings_vx.nd rfl (dk rfl)) (pss_one (ps_if (PW.pt (pw_and (pt_cmpR (op_dIn hr.units) (pv 1) (pv 0) rfl) (pw_and1 (pt_not (pt_val (pe_call (ok_is_allowed_rules T) (hr.mono (by decide)) (by rfl) T.g_is_allowed_rules T.F_is_allowed_rules.kp (bn_is_allowed_rules T) .nil pass0 (pa_cons (pv 1) (pa_cons (pe_dgetO hr.units (pv 0) (pv 1) (fun _ _ => rfl)) pa_nil)))))))) (pss_one (ps_rz (pmk_err (k := 0) T.er_NoRule.c is_NoRule T.er_NoRule.no T.er_NoRule.g T.er_NoRule.k (hr.mono (by decide)) (by rfl) (pa_cons (pv 1) pa_nil)))) pss_nil)))), ?_⟩
    have S : Sx P0 F0 H0 F0 H0 := Sx.refl0 hE
    unfold m_check_settings_vx at hm
    have f1 : (qT qS).r K F0 (.ref (He.ga K "FIELDS")) (["most", "alone", "tags", "quiet"] : List Str) := T.q_FIELDS _
    refine rd_for ?_
    refine rd_iT ?_
    refine rd_c ?_
    refine rd_wTF S f1 (fun p2 vs3 hq4 row5 => ?_)
    obtain ⟨t6, e7, hm⟩ := bd_some hm
    refine rd_forC feedsT (typedRow row5) e7 (fun (s8 : Unit) σ H => ∃ (F : Hp) (o1 : Option V), σ = [some v_settings, o1] ∧ Sx P0 F0 H0 F H) ?_ ?_ ?_ ?_
    · rintro _ _ _ ⟨_, _, _, S9⟩
      exact (same_t S9.sub (same_t S9.le hq4))
    · skip
      have S10 := Sx.refl0 S.sub
      exact ⟨F0, _, rfl, S10⟩
    · skip
      rintro x11 v12 s13 c17 σ14 H15 f16 ⟨F18, o20, rfl, S19⟩ hm23 hbk21 hrt22
      have f_settings := qSd.mono S19.le f_settings
      unfold m_check_settings_vx_b1 at hm23
      cases (show v12 = (V.str (x11)) from f16)
      obtain ⟨t36, e37, hm23⟩ := bd_some hm23
      refine rd_gn ?_
      refine rd_ifS ?_
      refine rd_and ?_
      refine rd_test ?_
      refine rd_op ?_
      refine rd_v rfl ?_
      refine rd_v rfl ?_
      refine rd_dInSd S19 f_settings ?_
      refine rd_b ?_
      refine and_j (fun c H' => c = t36 ∧ ∃ F', Sx P0 F18 H15 F' H') ?_ ?_ ?_
      · intro b38 Q39 q40
        have e37 := if_t e37 b38
        have S41 := Sx.refl0 S19.sub
        obtain ⟨t42, e43, e37⟩ := bd_some e37
        refine rd_not ?_
        refine rd_tB ?_
        refine rd_call ?_
        refine rd_cons ?_
        refine rd_v rfl ?_
        refine rd_cons ?_
        refine rd_op ?_
        refine rd_v rfl ?_
        refine rd_v rfl ?_
        refine rd_dgSd S41 f_settings e43 (fun u44 f45 => ?_)
        obtain ⟨t46, e47, e37⟩ := bd_some e37
        refine rd_nil ?_
        refine ⟨F18, _, _, _, t46, rfl, S41.sub, f45, e47, fun v51 F48 H49 c50 f52 => ?_⟩
        have S53 := S41.call0 c50
        have f_settings := qSd.mono c50.le f_settings
        cases (show v51 = (V.bl (t46)) from f52)
        cases e37
        refine rd_b ?_
        exact q40 _ _ ⟨rfl, F48, S53⟩
      · intro b38
        have e37 := if_f e37 b38
        cases e37
        have S54 := Sx.refl0 S19.sub
        exact ⟨rfl, F18, S54⟩
      rintro b58 H56 ⟨rfl, F55, c57⟩
      have S59 := S19.call0 c57
      have f_settings := qSd.mono c57.le f_settings
      refine if_b hm23 (fun b60 hm23 => ?_) (fun b60 hm23 => ?_)
      · skip
        cases hm23
        have e61 := hrt22 _ rfl
        subst e61
        have hm := aft_rt hm
        have S62 := S.call0 S59
        cases hm
        refine rd_rz ?_
        refine rd_cons ?_
        refine rd_v rfl ?_
        refine rd_nil ?_
        exact rd_eK (xs := [.str ((x11) : Str)]) S62 rfl rfl fun cls d H1 c er => hX _ _ _ _ _ rfl c er
      · skip
        cases hm23
        refine rd_next ?_
        exact ⟨_, rfl, ⟨F55, _, rfl, S59⟩⟩
    · skip
      rintro s65 σ63 H64 e66 ⟨F67, o69, rfl, S68⟩
      subst e66
      have hm := aft_nx hm
      have S70 := S.call0 S68
      have f_settings := qSd.mono S68.le f_settings
      cases hm
      exact hQ _ rfl _ _ _ S70 rfl
def sp_Rule___init__ (K : PySem.W.Frag) : Sp := fun vs H Q _ => ∃ (F : Hp) (p_self : Addr) (dx : Addr) (v_begins : V) (a_begins : (List Pat)) (v_ends : V) (a_ends : (List Pat)) (v_most : V) (a_most : Th) (v_alone : V) (a_alone : Th) (v_tags : V) (a_tags : Th) (v_quiet : V) (a_quiet : Th) (r : ((List Pat) × (List Pat) × (List (Str × Th)))), vs = [.ref p_self, v_begins, v_ends, v_most, v_alone, v_tags, v_quiet] ∧ Same F H ∧ Ow (fun a => a = p_self) H F H p_self (.ins (He.ga K "Rule") dx []) ∧ (qL qPat).r K F v_begins a_begins ∧ (qL qPat).r K F v_ends a_ends ∧ qTh.r K F v_most a_most ∧ qTh.r K F v_alone a_alone ∧ qTh.r K F v_tags a_tags ∧ qTh.r K F v_quiet a_quiet ∧ m_Rule___init__ a_begins a_ends a_most a_alone a_tags a_quiet = some r ∧ ∀ (F' H' : Hp) (u0 u1 u2 : V), Sx (fun a => a = p_self) F H F' H' → Ow (fun a => a = p_self) H F' H' p_self (.ins (He.ga K "Rule") dx [("openers", u0), ("closers", u1), ("settings", u2)]) → (qLF F qPat).r K F' u0 r.1 → (qLF F qPat).r K F' u1 r.2.1 → qSd.r K F' u2 r.2.2 → Q .non H'
theorem sc_Rule___init__ : FnScope ["self", "begins", "ends", "most", "alone", "tags", "quiet", "settings"] ["self", "begins", "ends", "most", "alone", "tags", "quiet"] (defScope s_Rule___init__) := ⟨rfl, rfl, rfl, by decide +kernel, rfl, by decide +kernel, by decide +kernel⟩
theorem kb_Rule___init___0 (T : Tx P K mg) : ∃ mv : List Value, KBn K (fdOf K ("Rule", some "__init__")) ["self", "begins", "ends", "most", "alone", "tags", "quiet"] 3 ["most", "alone", "tags", "quiet"] (fun us ws => us ++ (((ws.drop 0).take 1) ++ (((ws.drop 1).take 1) ++ (((ws.drop 2).take 1) ++ (((ws.drop 3).take 1)))))) (fun vs zs => vs ++ (((zs.drop 0).take 1) ++ (((zs.drop 1).take 1) ++ (((zs.drop 2).take 1) ++ (((zs.drop 3).take 1)))))) :=
  FunD.kbinds0 T.F_Rule___init__ 3 ["most", "alone", "tags", "quiet"] [] (fun us mv ws => us ++ (((ws.drop 0).take 1) ++ (((ws.drop 1).take 1) ++ (((ws.drop 2).take 1) ++ (((ws.drop 3).take 1)))))) (by decide) (fun q hq => by cases hq) (fun r1 r2 r3 => pApp r1 (pApp (pTake 1 (pDrop 0 r3)) (pApp (pTake 1 (pDrop 1 r3)) (pApp (pTake 1 (pDrop 2 r3)) (pTake 1 (pDrop 3 r3)))))) fun D doc pm an cdv ct us mv ws l1 l2 l3 => match us, l1, mv, l2, ws, l3 with | [_, _, _], _, [], _, [_, _, _, _], _ => rfl
theorem kb_Rule___init___1 (T : Tx P K mg) : ∃ mv : List Value, KBn K (fdOf K ("Rule", some "__init__")) ["self", "begins", "ends", "most", "alone", "tags", "quiet"] 3 [] (fun us ws => us ++ (((mv.drop 0).take 1) ++ (((mv.drop 1).take 1) ++ (((mv.drop 2).take 1) ++ (((mv.drop 3).take 1)))))) (fun vs zs => vs ++ ((((([("most", V.non), ("alone", V.bl true), ("tags", V.non), ("quiet", V.bl false)] : List (Str × V)).map (·.2)).drop 0).take 1) ++ ((((([("most", V.non), ("alone", V.bl true), ("tags", V.non), ("quiet", V.bl false)] : List (Str × V)).map (·.2)).drop 1).take 1) ++ ((((([("most", V.non), ("alone", V.bl true), ("tags", V.non), ("quiet", V.bl false)] : List (Str × V)).map (·.2)).drop 2).take 1) ++ ((((([("most", V.non), ("alone", V.bl true), ("tags", V.non), ("quiet", V.bl false)] : List (Str × V)).map (·.2)).drop 3).take 1)))))) :=
  FunD.kbinds0 T.F_Rule___init__ 3 [] [("most", V.non), ("alone", V.bl true), ("tags", V.non), ("quiet", V.bl false)] (fun us mv ws => us ++ (((mv.drop 0).take 1) ++ (((mv.drop 1).take 1) ++ (((mv.drop 2).take 1) ++ (((mv.drop 3).take 1)))))) (by decide) (fun q hq => by simp only [List.mem_cons, List.not_mem_nil, or_false] at hq; rcases hq with rfl | rfl | rfl | rfl <;> simp) (fun r1 r2 r3 => pApp r1 (pApp (pTake 1 (pDrop 0 r2)) (pApp (pTake 1 (pDrop 1 r2)) (pApp (pTake 1 (pDrop 2 r2)) (pTake 1 (pDrop 3 r2)))))) fun D doc pm an cdv ct us mv ws l1 l2 l3 => match us, l1, mv, l2, ws, l3 with | [_, _, _], _, [_, _, _, _], _, [], _ => ⟨_, _, _, _, _, _, rfl, rfl, ⟨_, _, _, _, _, _, rfl, rfl, ⟨_, _, _, _, _, _, rfl, rfl, ⟨_, _, _, _, _, _, rfl, rfl, rfl⟩⟩⟩⟩
theorem kd_Rule___init__ (T : Tx P K mg) : ∃ ds, Vals (([("most", V.non), ("alone", V.bl true), ("tags", V.non), ("quiet", V.bl false)] : List (Str × V)).map (·.2)) ds ∧ Binds K (fdOf K ("Rule", some "__init__")) ["self", "begins", "ends", "most", "alone", "tags", "quiet"] ds :=
  FunD.binds0 T.F_Rule___init__ 3 (by decide) rfl fun D doc pm an cdv ct us ks l1 l2 => match us, l1, ks, l2 with | [_, _, _], _, [_, _, _, _], _ => ⟨_, _, _, _, _, _, rfl, rfl, ⟨_, _, _, _, _, _, rfl, rfl, ⟨_, _, _, _, _, _, rfl, rfl, ⟨_, _, _, _, _, _, rfl, rfl, rfl⟩⟩⟩⟩
theorem ok_Rule___init__ (T : Tx P K mg) : FnOk P w K mg base CX0 3 (He.fAd K ("Rule", some "__init__")) (fdOf K ("Rule", some "__init__")) ["self", "begins", "ends", "most", "alone", "tags", "quiet"] (sp_Rule___init__ K) := by
  refine FunD.ok T.F_Rule___init__ sc_Rule___init__ (fun vs H0 Q E h => ?_) (fun cdv A outer s H0 vs Q E hr h => ?_)
  · obtain ⟨_, _, _, _, _, _, _, _, _, _, _, _, _, _, _, _, rfl, _⟩ := h
    rfl
  · obtain ⟨F0, p_self, dx, v_begins, a_begins, v_ends, a_ends, v_most, a_most, v_alone, a_alone, v_tags, a_tags, v_quiet, a_quiet, r, rfl, hE, w_self, f_begins, f_ends, f_most, f_alone, f_tags, f_quiet, hm, hQ⟩ := h
    refine ⟨_, PSs.nox ((pss_cons (ps_if (pt_cmpR op_gt (pe_op op_add (pe_callB (r := rLenQ K) cr_lenQ (by rfl) T.n_len (by decide +kernel) (pa_cons (pv 1) pa_nil)) (pe_callB (r := rLenQ K) cr_lenQ (by rfl) T.n_len (by decide +kernel) (pa_cons (pv 2) pa_nil))) pe_int (nomark _)) (pss_one ps_dead) pss_nil) (pss_cons (ps_set (i := 7) sc_Rule___init__.nd rfl (dk rfl) (pe_disp (pps_cons pe_str (pv 3) (pps_cons pe_str (pv 4) (pps_cons pe_str (pv 5) (pps_cons pe_str (pv 6) pps_nil)))) rfl rfl (by decide) (by decide))) (pss_cons (ps_expr (pe_call (ok_check_settings T) (hr.mono (by decide)) (by rfl) T.g_check_settings T.F_check_settings.kp (bn_check_settings T) .nil pass0 (pa_cons (pv 7) pa_nil))) (pss_cons (ps_fld (pv 0) (pe_callTy (r := rListQ K) cr_listQ (by rfl) T.n_list (by decide +kernel) (pa_cons (pv 1) pa_nil)) rfl) (pss_cons (ps_fld (pv 0) (pe_callTy (r := rListQ K) cr_listQ (by rfl) T.n_list (by decide +kernel) (pa_cons (pv 2) pa_nil)) rfl) (pss_one (ps_fld (pv 0) (pv 7) rfl)))))))), ?_⟩
    have S : Sx (fun a => a = p_self) F0 H0 F0 H0 := Sx.refl hE (live1 w_self)
    unfold m_Rule___init__ at hm
    refine rd_seq ?_
    refine rd_ifS ?_
    refine rd_test ?_
    refine rd_op ?_
    refine rd_op ?_
    refine rd_cb ?_
    refine rd_cons ?_
    refine rd_v rfl ?_
    refine rd_nil ?_
    refine rd_lenQ (S.l f_begins).r.q ?_
    refine rd_cb ?_
    refine rd_cons ?_
    refine rd_v rfl ?_
    refine rd_nil ?_
    refine rd_lenQ (S.l f_ends).r.q ?_
    refine rd_I0 ?_
    refine rd_c ?_
    refine rd_I0 ?_
    refine rd_b ?_
    refine if_b hm (fun b1 hm => ?_) (fun b1 hm => ?_)
    · skip
      cases hm
    · skip
      refine rd_next ?_
      refine rd_seq ?_
      refine rd_asg ?_
      refine rd_disp S (fun p2 H3 np4 c5 w6 => ?_)
      have ne7 : p_self ≠ p2 := w_self.ne np4
      have z8 := S.free0 np4
      have S9 := S.call0 c5
      have f_begins := (qL qPat).mono c5.le f_begins
      have f_ends := (qL qPat).mono c5.le f_ends
      have f_most := qTh.mono c5.le f_most
      have f_alone := qTh.mono c5.le f_alone
      have f_tags := qTh.mono c5.le f_tags
      have f_quiet := qTh.mono c5.le f_quiet
      have w_self := w_self.call0 c5
      have r10 : SdRow K F0 ([(.inr "most", v_most), (.inr "alone", v_alone), (.inr "tags", v_tags), (.inr "quiet", v_quiet)] : List (Key × V)) [(("most" : Str), a_most), (("alone" : Str), a_alone), (("tags" : Str), a_tags), (("quiet" : Str), a_quiet)] := (.cons ⟨rfl, f_most⟩ (.cons ⟨rfl, f_alone⟩ (.cons ⟨rfl, f_tags⟩ (.cons ⟨rfl, f_quiet⟩ .nil))))
      refine rd_pp ?_
      refine rd_c ?_
      refine rd_v rfl ?_
      refine rd_pp ?_
      refine rd_c ?_
      refine rd_v rfl ?_
      refine rd_pp ?_
      refine rd_c ?_
      refine rd_v rfl ?_
      refine rd_pp ?_
      refine rd_c ?_
      refine rd_v rfl ?_
      refine rd_p0 ?_
      refine rd_dispE (ks := [.inr "most", .inr "alone", .inr "tags", .inr "quiet"]) S9 w6 r10 rfl rfl rfl (by decide +kernel) (fun H11 c12 w13 => ?_)
      have S14 := S9.call1 c12 w6
      have f_begins := (qL qPat).mono c12.le f_begins
      have f_ends := (qL qPat).mono c12.le f_ends
      have f_most := qTh.mono c12.le f_most
      have f_alone := qTh.mono c12.le f_alone
      have f_tags := qTh.mono c12.le f_tags
      have f_quiet := qTh.mono c12.le f_quiet
      have w_self := w_self.call c12 (by intro z; exact ne7 z)
      have r10 := SdRow.mono c12.le r10
      obtain ⟨F15, S16, le17, f18, eq19⟩ := fzSd S14 w13 z8 r10
      have f_begins := (qL qPat).mono le17 f_begins
      have f_ends := (qL qPat).mono le17 f_ends
      have f_most := qTh.mono le17 f_most
      have f_alone := qTh.mono le17 f_alone
      have f_tags := qTh.mono le17 f_tags
      have f_quiet := qTh.mono le17 f_quiet
      have w_self := w_self.fzO ne7 eq19
      obtain ⟨t20, e21, hm⟩ := bd_some hm
      refine rd_gn ?_
      refine rd_seq ?_
      refine rd_drop ?_
      refine rd_call ?_
      refine rd_cons ?_
      refine rd_v rfl ?_
      refine rd_nil ?_
      refine ⟨F15, _, _, t20, rfl, S16.sub, f18, e21, fun v25 F22 H23 c24 f26 => ?_⟩
      have S27 := S16.call0 c24
      have f_begins := (qL qPat).mono c24.le f_begins
      have f_ends := (qL qPat).mono c24.le f_ends
      have f_most := qTh.mono c24.le f_most
      have f_alone := qTh.mono c24.le f_alone
      have f_tags := qTh.mono c24.le f_tags
      have f_quiet := qTh.mono c24.le f_quiet
      have f18 := qSd.mono c24.le f18
      have w_self := w_self.call0 c24
      cases (show v25 = V.non from f26)
      refine rd_seq ?_
      refine rd_sfld ?_
      refine rd_cb ?_
      refine rd_cons ?_
      refine rd_v rfl ?_
      refine rd_nil ?_
      refine rd_listQ (S27.l f_begins).r.q ?_
      refine alLF' S27 S27.le (fun v28 F29 H30 c31 f32 => ?_)
      have nv28 := f32.2
      have f32 := f32.1
      have S33 := S27.call0 c31
      have f_begins := (qL qPat).mono c31.le f_begins
      have f_ends := (qL qPat).mono c31.le f_ends
      have f_most := qTh.mono c31.le f_most
      have f_alone := qTh.mono c31.le f_alone
      have f_tags := qTh.mono c31.le f_tags
      have f_quiet := qTh.mono c31.le f_quiet
      have f18 := qSd.mono c31.le f18
      have w_self := w_self.call0 c31
      refine rd_v rfl ?_
      refine fset (fs' := [("openers", v28)]) S33 w_self T.c_Rule T.na_Rule_openers (by rfl) (by rfl) (fun H34 c35 w36 => ?_)
      have f37 : (qL qPat).r K F29 v28 a_begins := f32
      have S38 := S33.call1 c35 w_self
      have f_begins := (qL qPat).mono c35.le f_begins
      have f_ends := (qL qPat).mono c35.le f_ends
      have f_most := qTh.mono c35.le f_most
      have f_alone := qTh.mono c35.le f_alone
      have f_tags := qTh.mono c35.le f_tags
      have f_quiet := qTh.mono c35.le f_quiet
      have f18 := qSd.mono c35.le f18
      have f37 := (qL qPat).mono c35.le f37
      refine rd_seq ?_
      refine rd_sfld ?_
      refine rd_cb ?_
      refine rd_cons ?_
      refine rd_v rfl ?_
      refine rd_nil ?_
      refine rd_listQ (S38.l f_ends).r.q ?_
      refine alLF' S38 S38.le (fun v39 F40 H41 c42 f43 => ?_)
      have nv39 := f43.2
      have f43 := f43.1
      have S44 := S38.call0 c42
      have f_begins := (qL qPat).mono c42.le f_begins
      have f_ends := (qL qPat).mono c42.le f_ends
      have f_most := qTh.mono c42.le f_most
      have f_alone := qTh.mono c42.le f_alone
      have f_tags := qTh.mono c42.le f_tags
      have f_quiet := qTh.mono c42.le f_quiet
      have f18 := qSd.mono c42.le f18
      have f37 := (qL qPat).mono c42.le f37
      have w36 := w36.call0 c42
      refine rd_v rfl ?_
      refine fset (fs' := [("openers", v28), ("closers", v39)]) S44 w36 T.c_Rule T.na_Rule_closers (by rfl) (by rfl) (fun H45 c46 w47 => ?_)
      have f48 : (qL qPat).r K F40 v39 a_ends := f43
      have S49 := S44.call1 c46 w36
      have f_begins := (qL qPat).mono c46.le f_begins
      have f_ends := (qL qPat).mono c46.le f_ends
      have f_most := qTh.mono c46.le f_most
      have f_alone := qTh.mono c46.le f_alone
      have f_tags := qTh.mono c46.le f_tags
      have f_quiet := qTh.mono c46.le f_quiet
      have f18 := qSd.mono c46.le f18
      have f37 := (qL qPat).mono c46.le f37
      have f48 := (qL qPat).mono c46.le f48
      refine rd_sfld ?_
      refine rd_v rfl ?_
      refine rd_v rfl ?_
      refine fset (fs' := [("openers", v28), ("closers", v39), ("settings", (V.ref p2))]) S49 w47 T.c_Rule T.na_Rule_settings (by rfl) (by rfl) (fun H50 c51 w52 => ?_)
      have f53 : qSd.r K F40 (V.ref p2) [(("most" : Str), a_most), (("alone" : Str), a_alone), (("tags" : Str), a_tags), (("quiet" : Str), a_quiet)] := f18
      have S54 := S49.call1 c51 w47
      have f_begins := (qL qPat).mono c51.le f_begins
      have f_ends := (qL qPat).mono c51.le f_ends
      have f_most := qTh.mono c51.le f_most
      have f_alone := qTh.mono c51.le f_alone
      have f_tags := qTh.mono c51.le f_tags
      have f_quiet := qTh.mono c51.le f_quiet
      have f18 := qSd.mono c51.le f18
      have f37 := (qL qPat).mono c51.le f37
      have f48 := (qL qPat).mono c51.le f48
      have f53 := qSd.mono c51.le f53
      cases hm
      exact hQ _ _ v28 v39 (V.ref p2) S54 w52 ⟨f37, nv28⟩ ⟨f48, nv39⟩ f53
theorem new_Rule {P0' : Addr → Prop} {F0 H0 F H : Hp} {Q : VK} {E : XK} {b0 : (List Pat)} {v0 : V} {b1 : (List Pat)} {v1 : V} {b2 : Th} {v2 : V} {b3 : Th} {v3 : V} {b4 : Th} {v4 : V} {b5 : Th} {v5 : V} {r : ((List Pat) × (List Pat) × (List (Str × Th)))} (S : Sx P0' F0 H0 F H) (f0 : (qL qPat).r K F v0 b0) (f1 : (qL qPat).r K F v1 b1) (f2 : qTh.r K F v2 b2) (f3 : qTh.r K F v3 b3) (f4 : qTh.r K F v4 b4) (f5 : qTh.r K F v5 b5) (hm : m_Rule___init__ b0 b1 b2 b3 b4 b5 = some r) (k : ∀ v F' H', Sx P0 F H F' H' → qRule.r K F' v r → Q v H') : mkK (He.ga K "Rule") (sp_Rule___init__ K) E Q [v0, v1, v2, v3, v4, v5] H := by
  refine mk_plain S fun x dx H1 hx c1 w => ?_
  refine ⟨F, x, dx, v0, b0, v1, b1, v2, b2, v3, b3, v4, b4, v5, b5, r, rfl, c1.sub, w, f0, f1, f2, f3, f4, f5, hm, fun F' H' u0 u1 u2 c w' k0 k1 k2 => ⟨rfl, ?_⟩⟩
  obtain ⟨F2, S2, le, h3⟩ := fzI c1 hx c w'
  exact k _ F2 H' S2 ⟨x, dx, u0, u1, u2, rfl, h3, (qL qPat).mono le k0.1, (qL qPat).mono le k1.1, qSd.mono le k2⟩
theorem new_Rule_vo {P0' : Addr → Prop} {F0 H0 F H : Hp} {Q : VK} {E : XK} {b0 : (List Pat)} {v0 : V} {b1 : (List Pat)} {v1 : V} {b2 : Th} {v2 : V} {b3 : Th} {v3 : V} {b4 : Th} {v4 : V} {b5 : Th} {v5 : V} {r : ((List Pat) × (List Pat) × (List (Str × Th)))} (S : Sx P0' F0 H0 F H) (f0 : (qL qPat).r K F v0 b0) (f1 : (qL qPat).r K F v1 b1) (f2 : qTh.r K F v2 b2) (f3 : qTh.r K F v3 b3) (f4 : qTh.r K F v4 b4) (f5 : qTh.r K F v5 b5) (hm : m_Rule___init__ b0 b1 b2 b3 b4 b5 = some r) (k : ∀ (g dx : Addr) (u0 u1 u2 : V) (F' H' : Hp), H g = none → Sx P0 F H F' H' → Ow (fun a => a = g) H F' H' g (.ins (He.ga K "Rule") dx [("openers", u0), ("closers", u1), ("settings", u2)]) → (qL qPat).r K F' u0 r.1 → (qL qPat).r K F' u1 r.2.1 → qSd.r K F' u2 r.2.2 → Q (.ref g) H') : mkK (He.ga K "Rule") (sp_Rule___init__ K) E Q [v0, v1, v2, v3, v4, v5] H := by
  refine mk_plain S fun x dx H1 hx c1 w => ?_
  refine ⟨F, x, dx, v0, b0, v1, b1, v2, b2, v3, b3, v4, b4, v5, b5, r, rfl, c1.sub, w, f0, f1, f2, f3, f4, f5, hm, fun F' H' u0 u1 u2 c w' k0 k1 k2 => ⟨rfl, ?_⟩⟩
  have c2 : Sx P0 F H F' H' := c1.call c fun a e => by subst e; exact .inr hx
  exact k x dx u0 u1 u2 F' H' hx c2 ⟨w'.fr, w'.at_, .inr rfl⟩ k0.1 k1.1 k2
theorem new_Rule_vol {P0' : Addr → Prop} {F0 H0 F H : Hp} {Q : VK} {E : XK} {b0 : (List Pat)} {p0 : Addr} {us0 : List V} {b1 : (List Pat)} {p1 : Addr} {us1 : List V} {b2 : Th} {v2 : V} {b3 : Th} {v3 : V} {b4 : Th} {v4 : V} {b5 : Th} {v5 : V} {r : ((List Pat) × (List Pat) × (List (Str × Th)))} (S : Sx P0' F0 H0 F H) (w0 : Ow P0' H0 F H p0 (.lst us0)) (r0 : Row qPat K F us0 b0) (w1 : Ow P0' H0 F H p1 (.lst us1)) (r1 : Row qPat K F us1 b1) (f2 : qTh.r K F v2 b2) (f3 : qTh.r K F v3 b3) (f4 : qTh.r K F v4 b4) (f5 : qTh.r K F v5 b5) (hm : m_Rule___init__ b0 b1 b2 b3 b4 b5 = some r) (ok : (r.2.2.all fun e => thNoL e.2) = true) (k : ∀ (g dx : Addr) (u0 u1 u2 : V) (F' H' : Hp), H g = none → Sx P0 F H F' H' → Ow (fun a => a = g) H F' H' g (.ins (He.ga K "Rule") dx [("openers", u0), ("closers", u1), ("settings", u2)]) → (qL qPat).r K F' u0 r.1 → (qL qPat).r K F' u1 r.2.1 → qSd.r K F' u2 r.2.2 → Q (.ref g) H') : mkK (He.ga K "Rule") (sp_Rule___init__ K) E Q [V.ref p0, V.ref p1, v2, v3, v4, v5] H := by
  have le := frz2_le (H := H) w0.fr w1.fr
  have S1 : Sx P0 (frz2 p0 p1 F H) H (frz2 p0 p1 F H) H := Sx.refl0 (frz2_sub S.sub)
  refine mk_plain S1 fun x dx H1 hx c1 w => ?_
  refine ⟨_, x, dx, _, b0, _, b1, v2, b2, v3, b3, v4, b4, v5, b5, r, rfl, c1.sub, w, lent2_l w0.at_ r0 w0.fr w1.fr, lent2_r w1.at_ r1 w0.fr w1.fr, qTh.mono le f2, qTh.mono le f3, qTh.mono le f4, qTh.mono le f5, hm, fun F' H' u0 u1 u2 c w' k0 k1 k2 => ⟨rfl, ?_⟩⟩
  have c2 : Sx P0 (frz2 p0 p1 F H) H F' H' := c1.call c fun a e => by subst e; exact .inr hx
  have c3 := Sx.lent2 w0.fr w1.fr w0.at_ w1.at_ c2
  exact k x dx u0 u1 u2 _ H' hx c3 ⟨cutL_le.free w'.fr, w'.at_, .inr rfl⟩ (LF_cut k0 fun _ _ z => pat_cut c2.le z) (LF_cut k1 fun _ _ z => pat_cut c2.le z) (sd_cut c2.le ok k2)
def sp_Rule___init___vx (K : PySem.W.Frag) : Sp := fun vs H Q E => ∃ (F : Hp) (p_self : Addr) (dx : Addr) (v_begins : V) (a_begins : (List Pat)) (v_ends : V) (a_ends : (List Pat)) (v_most : V) (a_most : Th) (v_alone : V) (a_alone : Th) (v_tags : V) (a_tags : Th) (v_quiet : V) (a_quiet : Th) (rr : (Except Str ((List Pat) × (List Pat) × (List (Str × Th))))), vs = [.ref p_self, v_begins, v_ends, v_most, v_alone, v_tags, v_quiet] ∧ Same F H ∧ Ow (fun a => a = p_self) H F H p_self (.ins (He.ga K "Rule") dx []) ∧ (qL qPat).r K F v_begins a_begins ∧ (qL qPat).r K F v_ends a_ends ∧ qTh.r K F v_most a_most ∧ qTh.r K F v_alone a_alone ∧ qTh.r K F v_tags a_tags ∧ qTh.r K F v_quiet a_quiet ∧ m_Rule___init___vx a_begins a_ends a_most a_alone a_tags a_quiet = some rr ∧ (∀ r, rr = .ok r → ∀ (F' H' : Hp) (u0 u1 u2 : V), Sx (fun a => a = p_self) F H F' H' → Ow (fun a => a = p_self) H F' H' p_self (.ins (He.ga K "Rule") dx [("openers", u0), ("closers", u1), ("settings", u2)]) → (qL qPat).r K F' u0 r.1 → (qL qPat).r K F' u1 r.2.1 → qSd.r K F' u2 r.2.2 → Q .non H') ∧ (∀ e cls d F' H', rr = .error e → Sx (fun a => a = p_self) F H F' H' → ErrAt K H' "NoRule" ["field"] [.str e] cls d → E cls d H')
theorem sc_Rule___init___vx : FnScope ["self", "begins", "ends", "most", "alone", "tags", "quiet", "settings"] ["self", "begins", "ends", "most", "alone", "tags", "quiet"] (defScope s_Rule___init__) := ⟨rfl, rfl, rfl, by decide +kernel, rfl, by decide +kernel, by decide +kernel⟩
theorem kb_Rule___init___vx_0 (T : Tx P K mg) : ∃ mv : List Value, KBn K (fdOf K ("Rule", some "__init__")) ["self", "begins", "ends", "most", "alone", "tags", "quiet"] 3 ["most", "alone", "tags", "quiet"] (fun us ws => us ++ (((ws.drop 0).take 1) ++ (((ws.drop 1).take 1) ++ (((ws.drop 2).take 1) ++ (((ws.drop 3).take 1)))))) (fun vs zs => vs ++ (((zs.drop 0).take 1) ++ (((zs.drop 1).take 1) ++ (((zs.drop 2).take 1) ++ (((zs.drop 3).take 1)))))) :=
  FunD.kbinds0 T.F_Rule___init__ 3 ["most", "alone", "tags", "quiet"] [] (fun us mv ws => us ++ (((ws.drop 0).take 1) ++ (((ws.drop 1).take 1) ++ (((ws.drop 2).take 1) ++ (((ws.drop 3).take 1)))))) (by decide) (fun q hq => by cases hq) (fun r1 r2 r3 => pApp r1 (pApp (pTake 1 (pDrop 0 r3)) (pApp (pTake 1 (pDrop 1 r3)) (pApp (pTake 1 (pDrop 2 r3)) (pTake 1 (pDrop 3 r3)))))) fun D doc pm an cdv ct us mv ws l1 l2 l3 => match us, l1, mv, l2, ws, l3 with | [_, _, _], _, [], _, [_, _, _, _], _ => rfl
theorem kd_Rule___init___vx (T : Tx P K mg) : ∃ ds, Vals (([("most", V.non), ("alone", V.bl true), ("tags", V.non), ("quiet", V.bl false)] : List (Str × V)).map (·.2)) ds ∧ Binds K (fdOf K ("Rule", some "__init__")) ["self", "begins", "ends", "most", "alone", "tags", "quiet"] ds :=
  FunD.binds0 T.F_Rule___init__ 3 (by decide) rfl fun D doc pm an cdv ct us ks l1 l2 => match us, l1, ks, l2 with | [_, _, _], _, [_, _, _, _], _ => ⟨_, _, _, _, _, _, rfl, rfl, ⟨_, _, _, _, _, _, rfl, rfl, ⟨_, _, _, _, _, _, rfl, rfl, ⟨_, _, _, _, _, _, rfl, rfl, rfl⟩⟩⟩⟩
theorem ok_Rule___init___vx (T : Tx P K mg) : FnOk P w K mg base (L2.CX P w) 4 (He.fAd K ("Rule", some "__init__")) (fdOf K ("Rule", some "__init__")) ["self", "begins", "ends", "most", "alone", "tags", "quiet"] (sp_Rule___init___vx K) := by
  refine FunD.ok T.F_Rule___init__ sc_Rule___init___vx (fun vs H0 Q E h => ?_) (fun cdv A outer s H0 vs Q E hr h => ?_)
  · obtain ⟨_, _, _, _, _, _, _, _, _, _, _, _, _, _, _, _, rfl, _⟩ := h
    rfl
  · obtain ⟨F0, p_self, dx, v_begins, a_begins, v_ends, a_ends, v_most, a_most, v_alone, a_alone, v_tags, a_tags, v_quiet, a_quiet, rr, rfl, hE, w_self, f_begins, f_ends, f_most, f_alone, f_tags, f_quiet, hm, hQ, hX⟩ := h
    refine ⟨_, (pss_cons (ps_if (pt_cmpR op_gt (pe_op op_add (pe_callB (r := rLenQ K) cr_lenQ (by rfl) T.n_len (by decide +kernel) (pa_cons (pv 1) pa_nil)) (pe_callB (r := rLenQ K) cr_lenQ (by rfl) T.n_len (by decide +kernel) (pa_cons (pv 2) pa_nil))) pe_int (nomark _)) (pss_one (ps_rz (pmk_err (k := 0) T.er_NoRule.c is_NoRule T.er_NoRule.no T.er_NoRule.g T.er_NoRule.k (hr.mono (by decide)) (by rfl) (pa_cons pe_str pa_nil)))) pss_nil) (pss_cons (ps_set (i := 7) sc_Rule___init___vx.nd rfl (dk rfl) (pe_disp (pps_cons pe_str (pv 3) (pps_cons pe_str (pv 4) (pps_cons pe_str (pv 5) (pps_cons pe_str (pv 6) pps_nil)))) rfl rfl (by decide) (by decide))) (pss_cons (ps_expr (pe_call (ok_check_settings_vx T) (hr.mono (by decide)) (by rfl) T.g_check_settings T.F_check_settings.kp (bn_check_settings_vx T) .nil passes_cx (pa_cons (pv 7) pa_nil))) (pss_cons (ps_fld (pv 0) (pe_callTy (r := rListQ K) cr_listQ (by rfl) T.n_list (by decide +kernel) (pa_cons (pv 1) pa_nil)) rfl) (pss_cons (ps_fld (pv 0) (pe_callTy (r := rListQ K) cr_listQ (by rfl) T.n_list (by decide +kernel) (pa_cons (pv 2) pa_nil)) rfl) (pss_one (ps_fld (pv 0) (pv 7) rfl))))))), ?_⟩
    have S : Sx (fun a => a = p_self) F0 H0 F0 H0 := Sx.refl hE (live1 w_self)
    unfold m_Rule___init___vx at hm
    refine rd_seq ?_
    refine rd_ifS ?_
    refine rd_test ?_
    refine rd_op ?_
    refine rd_op ?_
    refine rd_cb ?_
    refine rd_cons ?_
    refine rd_v rfl ?_
    refine rd_nil ?_
    refine rd_lenQ (S.l f_begins).r.q ?_
    refine rd_cb ?_
    refine rd_cons ?_
    refine rd_v rfl ?_
    refine rd_nil ?_
    refine rd_lenQ (S.l f_ends).r.q ?_
    refine rd_I0 ?_
    refine rd_c ?_
    refine rd_I0 ?_
    refine rd_b ?_
    refine if_b hm (fun b1 hm => ?_) (fun b1 hm => ?_)
    · skip
      cases hm
      refine rd_rz ?_
      refine rd_cons ?_
      refine rd_c ?_
      refine rd_nil ?_
      exact rd_eK (xs := [.str ((("marks" : Str)) : Str)]) S rfl rfl fun cls d H1 c er => hX _ _ _ _ _ rfl c er
    · skip
      refine rd_next ?_
      refine rd_seq ?_
      refine rd_asg ?_
      refine rd_disp S (fun p2 H3 np4 c5 w6 => ?_)
      have ne7 : p_self ≠ p2 := w_self.ne np4
      have z8 := S.free0 np4
      have S9 := S.call0 c5
      have f_begins := (qL qPat).mono c5.le f_begins
      have f_ends := (qL qPat).mono c5.le f_ends
      have f_most := qTh.mono c5.le f_most
      have f_alone := qTh.mono c5.le f_alone
      have f_tags := qTh.mono c5.le f_tags
      have f_quiet := qTh.mono c5.le f_quiet
      have w_self := w_self.call0 c5
      have r10 : SdRow K F0 ([(.inr "most", v_most), (.inr "alone", v_alone), (.inr "tags", v_tags), (.inr "quiet", v_quiet)] : List (Key × V)) [(("most" : Str), a_most), (("alone" : Str), a_alone), (("tags" : Str), a_tags), (("quiet" : Str), a_quiet)] := (.cons ⟨rfl, f_most⟩ (.cons ⟨rfl, f_alone⟩ (.cons ⟨rfl, f_tags⟩ (.cons ⟨rfl, f_quiet⟩ .nil))))
      refine rd_pp ?_
      refine rd_c ?_
      refine rd_v rfl ?_
      refine rd_pp ?_
      refine rd_c ?_
      refine rd_v rfl ?_
      refine rd_pp ?_
      refine rd_c ?_
      refine rd_v rfl ?_
      refine rd_pp ?_
      refine rd_c ?_
      refine rd_v rfl ?_
      refine rd_p0 ?_
      refine rd_dispE (ks := [.inr "most", .inr "alone", .inr "tags", .inr "quiet"]) S9 w6 r10 rfl rfl rfl (by decide +kernel) (fun H11 c12 w13 => ?_)
      have S14 := S9.call1 c12 w6
      have f_begins := (qL qPat).mono c12.le f_begins
      have f_ends := (qL qPat).mono c12.le f_ends
      have f_most := qTh.mono c12.le f_most
      have f_alone := qTh.mono c12.le f_alone
      have f_tags := qTh.mono c12.le f_tags
      have f_quiet := qTh.mono c12.le f_quiet
      have w_self := w_self.call c12 (by intro z; exact ne7 z)
      have r10 := SdRow.mono c12.le r10
      obtain ⟨F15, S16, le17, f18, eq19⟩ := fzSd S14 w13 z8 r10
      have f_begins := (qL qPat).mono le17 f_begins
      have f_ends := (qL qPat).mono le17 f_ends
      have f_most := qTh.mono le17 f_most
      have f_alone := qTh.mono le17 f_alone
      have f_tags := qTh.mono le17 f_tags
      have f_quiet := qTh.mono le17 f_quiet
      have w_self := w_self.fzO ne7 eq19
      obtain ⟨t20, e21, hm⟩ := bd_some hm
      refine rd_gn ?_
      refine rd_seq ?_
      refine rd_drop ?_
      refine rd_call ?_
      refine rd_cons ?_
      refine rd_v rfl ?_
      refine rd_nil ?_
      refine ⟨F15, _, _, t20, rfl, S16.sub, f18, e21, ?_, ?_⟩
      rotate_left
      · skip
        intro x29 cls30 d31 F32 H33 ee34 c35 ea36
        exact hX _ _ _ _ _ (exB_err ee34 hm) (S16.call0 c35) ea36
      intro t22 er28 v26 F23 H24 c25 f27
      subst er28
      have hm := exB_ok hm
      have S37 := S16.call0 c25
      have f_begins := (qL qPat).mono c25.le f_begins
      have f_ends := (qL qPat).mono c25.le f_ends
      have f_most := qTh.mono c25.le f_most
      have f_alone := qTh.mono c25.le f_alone
      have f_tags := qTh.mono c25.le f_tags
      have f_quiet := qTh.mono c25.le f_quiet
      have f18 := qSd.mono c25.le f18
      have w_self := w_self.call0 c25
      cases (show v26 = V.non from f27)
      refine rd_seq ?_
      refine rd_sfld ?_
      refine rd_cb ?_
      refine rd_cons ?_
      refine rd_v rfl ?_
      refine rd_nil ?_
      refine rd_listQ (S37.l f_begins).r.q ?_
      refine alL' S37 (fun v38 F39 H40 c41 f42 => ?_)
      have S43 := S37.call0 c41
      have f_begins := (qL qPat).mono c41.le f_begins
      have f_ends := (qL qPat).mono c41.le f_ends
      have f_most := qTh.mono c41.le f_most
      have f_alone := qTh.mono c41.le f_alone
      have f_tags := qTh.mono c41.le f_tags
      have f_quiet := qTh.mono c41.le f_quiet
      have f18 := qSd.mono c41.le f18
      have w_self := w_self.call0 c41
      refine rd_v rfl ?_
      refine fset (fs' := [("openers", v38)]) S43 w_self T.c_Rule T.na_Rule_openers (by rfl) (by rfl) (fun H44 c45 w46 => ?_)
      have f47 : (qL qPat).r K F39 v38 a_begins := f42
      have S48 := S43.call1 c45 w_self
      have f_begins := (qL qPat).mono c45.le f_begins
      have f_ends := (qL qPat).mono c45.le f_ends
      have f_most := qTh.mono c45.le f_most
      have f_alone := qTh.mono c45.le f_alone
      have f_tags := qTh.mono c45.le f_tags
      have f_quiet := qTh.mono c45.le f_quiet
      have f18 := qSd.mono c45.le f18
      have f47 := (qL qPat).mono c45.le f47
      refine rd_seq ?_
      refine rd_sfld ?_
      refine rd_cb ?_
      refine rd_cons ?_
      refine rd_v rfl ?_
      refine rd_nil ?_
      refine rd_listQ (S48.l f_ends).r.q ?_
      refine alL' S48 (fun v49 F50 H51 c52 f53 => ?_)
      have S54 := S48.call0 c52
      have f_begins := (qL qPat).mono c52.le f_begins
      have f_ends := (qL qPat).mono c52.le f_ends
      have f_most := qTh.mono c52.le f_most
      have f_alone := qTh.mono c52.le f_alone
      have f_tags := qTh.mono c52.le f_tags
      have f_quiet := qTh.mono c52.le f_quiet
      have f18 := qSd.mono c52.le f18
      have f47 := (qL qPat).mono c52.le f47
      have w46 := w46.call0 c52
      refine rd_v rfl ?_
      refine fset (fs' := [("openers", v38), ("closers", v49)]) S54 w46 T.c_Rule T.na_Rule_closers (by rfl) (by rfl) (fun H55 c56 w57 => ?_)
      have f58 : (qL qPat).r K F50 v49 a_ends := f53
      have S59 := S54.call1 c56 w46
      have f_begins := (qL qPat).mono c56.le f_begins
      have f_ends := (qL qPat).mono c56.le f_ends
      have f_most := qTh.mono c56.le f_most
      have f_alone := qTh.mono c56.le f_alone
      have f_tags := qTh.mono c56.le f_tags
      have f_quiet := qTh.mono c56.le f_quiet
      have f18 := qSd.mono c56.le f18
      have f47 := (qL qPat).mono c56.le f47
      have f58 := (qL qPat).mono c56.le f58
      refine rd_sfld ?_
      refine rd_v rfl ?_
      refine rd_v rfl ?_
      refine fset (fs' := [("openers", v38), ("closers", v49), ("settings", (V.ref p2))]) S59 w57 T.c_Rule T.na_Rule_settings (by rfl) (by rfl) (fun H60 c61 w62 => ?_)
      have f63 : qSd.r K F50 (V.ref p2) [(("most" : Str), a_most), (("alone" : Str), a_alone), (("tags" : Str), a_tags), (("quiet" : Str), a_quiet)] := f18
      have S64 := S59.call1 c61 w57
      have f_begins := (qL qPat).mono c61.le f_begins
      have f_ends := (qL qPat).mono c61.le f_ends
      have f_most := qTh.mono c61.le f_most
      have f_alone := qTh.mono c61.le f_alone
      have f_tags := qTh.mono c61.le f_tags
      have f_quiet := qTh.mono c61.le f_quiet
      have f18 := qSd.mono c61.le f18
      have f47 := (qL qPat).mono c61.le f47
      have f58 := (qL qPat).mono c61.le f58
      have f63 := qSd.mono c61.le f63
      cases hm
      exact hQ _ rfl _ _ v38 v49 (V.ref p2) S64 w62 f47 f58 f63
theorem newx_Rule {P0' : Addr → Prop} {F0 H0 F H : Hp} {Q : VK} {E : XK} {b0 : (List Pat)} {v0 : V} {b1 : (List Pat)} {v1 : V} {b2 : Th} {v2 : V} {b3 : Th} {v3 : V} {b4 : Th} {v4 : V} {b5 : Th} {v5 : V} {rr : (Except Str ((List Pat) × (List Pat) × (List (Str × Th))))} (S : Sx P0' F0 H0 F H) (f0 : (qL qPat).r K F v0 b0) (f1 : (qL qPat).r K F v1 b1) (f2 : qTh.r K F v2 b2) (f3 : qTh.r K F v3 b3) (f4 : qTh.r K F v4 b4) (f5 : qTh.r K F v5 b5) (hm : m_Rule___init___vx b0 b1 b2 b3 b4 b5 = some rr) (k : ∀ r, rr = .ok r → ∀ v F' H', Sx P0 F H F' H' → qRule.r K F' v r → Q v H') (kx : ∀ e cls d F' H', rr = .error e → Sx P0 F H F' H' → ErrAt K H' "NoRule" ["field"] [.str e] cls d → E cls d H') : mkK (He.ga K "Rule") (fun vs => sp_Rule___init___vx K (vs ++ [])) E Q [v0, v1, v2, v3, v4, v5] H := by
  refine mk_plain S fun x dx H1 hx c1 w => ?_
  refine ⟨F, x, dx, v0, b0, v1, b1, v2, b2, v3, b3, v4, b4, v5, b5, rr, rfl, c1.sub, w, f0, f1, f2, f3, f4, f5, hm, fun r er F' H' u0 u1 u2 c w' k0 k1 k2 => ⟨rfl, ?_⟩, fun e cls d F' H' ee c ea => kx e cls d F' H' ee (c1.call c fun a z => .inr (by rw [z]; exact hx)) ea⟩
  obtain ⟨F2, S2, le, h3⟩ := fzI c1 hx c w'
  exact k r er _ F2 H' S2 ⟨x, dx, u0, u1, u2, rfl, h3, (qL qPat).mono le k0, (qL qPat).mono le k1, qSd.mono le k2⟩
theorem newx_RuleS {P0' : Addr → Prop} {F0 H0 F H : Hp} {Q : VK} {E : XK} {b0 : (List Pat)} {v0 : V} {b1 : (List Pat)} {v1 : V} {b2 : Th} {v2 : V} {b3 : Th} {v3 : V} {b4 : Th} {v4 : V} {b5 : Th} {v5 : V} {rr : (Except Str ((List Pat) × (List Pat) × (List (Str × Th))))} (S : Sx P0' F0 H0 F H) (f0 : (qL qPat).r K F v0 b0) (f1 : (qL qPat).r K F v1 b1) (f2 : qTh.r K F v2 b2) (f3 : qTh.r K F v3 b3) (f4 : qTh.r K F v4 b4) (f5 : qTh.r K F v5 b5) (hm : m_Rule___init___vx b0 b1 b2 b3 b4 b5 = some rr) (k : ∀ r, rr = .ok r → ∀ v F' H', Sx P0 F H F' H' → qRule.r K F' v r → Q v H') (kx : ∀ e cls d F' H', rr = .error e → Sx P0 F H F' H' → ErrAt K H' "NoRule" ["field"] [.str e] cls d → E cls d H') : mkK (He.ga K "Rule") (sp_Rule___init___vx K) E Q [v0, v1, v2, v3, v4, v5] H := by
  refine mk_plain S fun x dx H1 hx c1 w => ?_
  refine ⟨F, x, dx, v0, b0, v1, b1, v2, b2, v3, b3, v4, b4, v5, b5, rr, rfl, c1.sub, w, f0, f1, f2, f3, f4, f5, hm, fun r er F' H' u0 u1 u2 c w' k0 k1 k2 => ⟨rfl, ?_⟩, fun e cls d F' H' ee c ea => kx e cls d F' H' ee (c1.call c fun a z => .inr (by rw [z]; exact hx)) ea⟩
  obtain ⟨F2, S2, le, h3⟩ := fzI c1 hx c w'
  exact k r er _ F2 H' S2 ⟨x, dx, u0, u1, u2, rfl, h3, (qL qPat).mono le k0, (qL qPat).mono le k1, qSd.mono le k2⟩
def sp_law_refused (K : PySem.W.Frag) : Sp := fun vs H Q _ => ∃ (F : Hp) (v__law_begins : V) (a__law_begins : (List Pat)) (v__law_ends : V) (a__law_ends : (List Pat)) (v__law_values : V) (a__law_values : (List Th)) (r : (Option Str)), vs = [v__law_begins, v__law_ends, v__law_values] ∧ Same F H ∧ (qL qPat).r K F v__law_begins a__law_begins ∧ (qL qPat).r K F v__law_ends a__law_ends ∧ (qL qTh).r K F v__law_values a__law_values ∧ m_law_refused a__law_begins a__law_ends a__law_values = some r ∧ ∀ v F' H', Sx P0 F H F' H' → (qO qS).r K F' v r → Q v H'
theorem sc_law_refused : FnScope ["_law_begins", "_law_ends", "_law_values", "e"] ["_law_begins", "_law_ends", "_law_values"] (defScope s_law_refused) := ⟨rfl, rfl, rfl, by decide +kernel, rfl, by decide +kernel, by decide +kernel⟩
theorem bn_law_refused (T : Tx P K mg) : Binds K (fdOf K ("_law_refused", none)) ["_law_begins", "_law_ends", "_law_values"] [] := FunD.bindsN T.F_law_refused fun _ _ _ _ _ _ us hl => match us, hl with | [_, _, _], _ => rfl
theorem ok_law_refused (T : Tx P K mg) : FnOk P w K mg base CX0 6 (He.ga K "_law_refused") (fdOf K ("_law_refused", none)) ["_law_begins", "_law_ends", "_law_values"] (sp_law_refused K) := by
  refine FunD.ok T.F_law_refused sc_law_refused (fun vs H0 Q E h => ?_) (fun cdv A outer s H0 vs Q E hr h => ?_)
  · obtain ⟨_, _, _, _, _, _, _, _, rfl, _⟩ := h
    rfl
  · obtain ⟨F0, v__law_begins, a__law_begins, v__law_ends, a__law_ends, v__law_values, a__law_values, r, rfl, hE, f__law_begins, f__law_ends, f__law_values, hm, hQ⟩ := h
    refine ⟨_, PSs.nox ((pss_cons (ps_tryK (i := 3) rfl rfl sc_law_refused.nd rfl rfl ⟨by rfl, by decide, .inl T.gx_NoRule⟩ takesF (fun W pn xe tk own => (pss_one (ps_expr (pe_makeKS T.mk_Rule (ok_Rule___init___vx T) (hr.mono (by decide)) (by rfl) T.gc_Rule (kb_Rule___init___vx_0 T).choose_spec (fun σ => passAt tk σ) (pa_cons (pv 0) (pa_cons (pv 1) pa_nil)) (pk_cons (pe_ix (r := rIxL K) ix_list (pv 2) pe_int (fun _ _ => rfl)) (pk_cons (pe_ix (r := rIxL K) ix_list (pv 2) pe_int (fun _ _ => rfl)) (pk_cons (pe_ix (r := rIxL K) ix_list (pv 2) pe_int (fun _ _ => rfl)) (pk_cons (pe_ix (r := rIxL K) ix_list (pv 2) pe_int (fun _ _ => rfl)) pk_nil)))))))) (fun a oe cls d pn hz hf => (pss_one (ps_ret (pe_xf T.er_NoRule.xf (T.er_NoRule.no _ (by decide)) hz hf (pv 3)))))) (pss_one (ps_ret pe_non)))), ?_⟩
    have S : Sx P0 F0 H0 F0 H0 := Sx.refl0 hE
    unfold m_law_refused at hm
    obtain ⟨t1, e2, hm⟩ := bd_some hm
    refine rd_seq ?_
    refine rd_try ?_
    refine rd_drop ?_
    refine rd_makeKS ?_
    refine rd_cons ?_
    refine rd_v rfl ?_
    refine rd_cons ?_
    refine rd_v rfl ?_
    refine rd_nil ?_
    refine rd_cons ?_
    refine rd_op ?_
    refine rd_v rfl ?_
    refine rd_c ?_
    refine rd_ixL (S.l f__law_values).r e2 (fun u3 f4 => ?_)
    obtain ⟨t5, e6, hm⟩ := bd_some hm
    refine rd_cons ?_
    refine rd_op ?_
    refine rd_v rfl ?_
    refine rd_c ?_
    refine rd_ixL (S.l f__law_values).r e6 (fun u7 f8 => ?_)
    obtain ⟨t9, e10, hm⟩ := bd_some hm
    refine rd_cons ?_
    refine rd_op ?_
    refine rd_v rfl ?_
    refine rd_c ?_
    refine rd_ixL (S.l f__law_values).r e10 (fun u11 f12 => ?_)
    obtain ⟨t13, e14, hm⟩ := bd_some hm
    refine rd_cons ?_
    refine rd_op ?_
    refine rd_v rfl ?_
    refine rd_c ?_
    refine rd_ixL (S.l f__law_values).r e14 (fun u15 f16 => ?_)
    obtain ⟨t17, e18, hm⟩ := bd_some hm
    refine rd_nil ?_
    refine mkk_at (rest := [v__law_begins, v__law_ends, u3, u7, u11, u15]) rfl rfl (fun _ => rfl) ?_
    refine newx_RuleS S f__law_begins f__law_ends f4 f8 f12 f16 e18 ?_ ?_
    rotate_left
    · skip
      intro x26 cls27 d28 F29 H30 ee31 c32 ea33
      subst ee31
      have hm := exT_err hm
      obtain ⟨dd34, rfl, rfl, hx35⟩ := ea33
      refine rd_was T.xm_NoRule_NoRule (fun a36 na37 => ?_)
      have S38 := S.call0 c32
      have f__law_begins := (qL qPat).mono c32.le f__law_begins
      have f__law_ends := (qL qPat).mono c32.le f__law_ends
      have f__law_values := (qL qTh).mono c32.le f__law_values
      have f39 : (qO qS).r K F29 (V.str (x26)) (some x26) := (show (qO qS).r K F29 (V.str (x26)) (some x26) from rfl)
      cases hm
      refine rd_ret ?_
      refine rd_xf ?_
      refine rd_v rfl ?_
      refine xf_at hx35 (by rfl) ?_
      exact hQ _ _ _ S38 f39
    intro t19 er20 v21 F22 H23 c24 f25
    subst er20
    have hm := exT_ok hm
    have S40 := S.call0 c24
    have f__law_begins := (qL qPat).mono c24.le f__law_begins
    have f__law_ends := (qL qPat).mono c24.le f__law_ends
    have f__law_values := (qL qTh).mono c24.le f__law_values
    have f41 : (qO qS).r K F22 V.non none := (show (qO qS).r K F22 V.non none from rfl)
    cases hm
    refine rd_ret ?_
    refine rd_c ?_
    exact hQ _ _ _ S40 f41
def sp_law_all_signs (K : PySem.W.Frag) : Sp := fun vs H Q _ => ∃ (F : Hp)  (r : Str), vs = [] ∧ Same F H ∧ m_law_all_signs = some r ∧ ∀ v F' H', Sx P0 F H F' H' → qS.r K F' v r → Q v H'
theorem sc_law_all_signs : FnScope [] [] (defScope s_law_all_signs) := ⟨rfl, rfl, rfl, by decide +kernel, rfl, by decide +kernel, by decide +kernel⟩
theorem bn_law_all_signs (T : Tx P K mg) : Binds K (fdOf K ("_law_all_signs", none)) [] [] := FunD.bindsN T.F_law_all_signs fun _ _ _ _ _ _ us hl => match us, hl with | [], _ => rfl
theorem ok_law_all_signs (T : Tx P K mg) : FnOk P w K mg base CX0 1 (He.ga K "_law_all_signs") (fdOf K ("_law_all_signs", none)) [] (sp_law_all_signs K) := by
  refine FunD.ok T.F_law_all_signs sc_law_all_signs (fun vs H0 Q E h => ?_) (fun cdv A outer s H0 vs Q E hr h => ?_)
  · obtain ⟨_, _, rfl, _⟩ := h
    rfl
  · obtain ⟨F0, r, rfl, hE, hm, hQ⟩ := h
    refine ⟨_, PSs.nox ((pss_one (ps_ret pe_str))), ?_⟩
    have S : Sx P0 F0 H0 F0 H0 := Sx.refl0 hE
    unfold m_law_all_signs at hm
    cases hm
    refine rd_ret ?_
    refine rd_c ?_
    exact hQ _ _ _ S rfl
def sp_law_text (K : PySem.W.Frag) : Sp := fun vs H Q _ => ∃ (F : Hp) (p__law_pool_here : Addr) (a__law_pool_here : Int × Int) (r : (Str × (Int × Int))), vs = [.ref p__law_pool_here] ∧ Same F H ∧ Ow (fun a => a = p__law_pool_here) H F H p__law_pool_here (.lst [.int a__law_pool_here.1, .int a__law_pool_here.2]) ∧ m_law_text a__law_pool_here = some r ∧ ∀ v F' H', Sx (fun a => a = p__law_pool_here) F H F' H' → Ow (fun a => a = p__law_pool_here) H F' H' p__law_pool_here (.lst [.int r.2.1, .int r.2.2]) → qS.r K F' v r.1 → Q v H'
theorem sc_law_text : FnScope ["_law_pool_here", "_law_text_here", "_law_style", "_law_k"] ["_law_pool_here"] (defScope s_law_text) := ⟨rfl, rfl, rfl, by decide +kernel, rfl, by decide +kernel, by decide +kernel⟩
theorem bn_law_text (T : Tx P K mg) : Binds K (fdOf K ("_law_text", none)) ["_law_pool_here"] [] := FunD.bindsN T.F_law_text fun _ _ _ _ _ _ us hl => match us, hl with | [_], _ => rfl
theorem ok_law_text (T : Tx P K mg) : FnOk P w K mg base CX0 2 (He.ga K "_law_text") (fdOf K ("_law_text", none)) ["_law_pool_here"] (sp_law_text K) := by
  refine FunD.ok T.F_law_text sc_law_text (fun vs H0 Q E h => ?_) (fun cdv A outer s H0 vs Q E hr h => ?_)
  · obtain ⟨_, _, _, _, rfl, _⟩ := h
    rfl
  · obtain ⟨F0, p__law_pool_here, a__law_pool_here, r, rfl, hE, w__law_pool_here, hm, hQ⟩ := h
    refine ⟨_, PSs.nox ((pss_cons (ps_set (i := 1) sc_law_text.nd rfl (dk rfl) pe_str) (pss_cons (ps_set (i := 2) sc_law_text.nd rfl (dk rfl) (pe_call (ok_law_take T) (hr.mono (by decide)) (by rfl) T.g_law_take T.F_law_take.kp (bn_law_take T) .nil pass0 (pa_cons (pv 0) (pa_cons pe_int pa_nil)))) (pss_cons (ps_for PassesOwn.never rfl (pi_range1 (by rfl) T.n_range (pa_cons (pe_op op_add pe_int (pe_call (ok_law_take T) (hr.mono (by decide)) (by rfl) T.g_law_take T.F_law_take.kp (bn_law_take T) .nil pass0 (pa_cons (pv 0) (pa_cons pe_int pa_nil)))) pa_nil)) (pg_name (i := 3) sc_law_text.nd rfl (dk rfl)) (pss_one (ps_if (pt_cmpR op_eqI (pv 2) pe_int (nomark _)) (pss_one (ps_set (i := 1) sc_law_text.nd rfl (dk rfl) (pe_op op_catS (pv 1) (pe_ix ix_str (pe_call0 (ok_law_all_signs T) (hr.mono (by decide)) (by rfl) T.g_law_all_signs T.F_law_all_signs.kp (bn_law_all_signs T) .nil pass0) (pe_call (ok_law_take T) (hr.mono (by decide)) (by rfl) T.g_law_take T.F_law_take.kp (bn_law_take T) .nil pass0 (pa_cons (pv 0) (pa_cons pe_int pa_nil))) (fun _ _ => rfl))))) (pss_one (ps_set (i := 1) sc_law_text.nd rfl (dk rfl) (pe_op op_catS (pv 1) (pe_ix ix_str pe_str (pe_call (ok_law_take T) (hr.mono (by decide)) (by rfl) T.g_law_take T.F_law_take.kp (bn_law_take T) .nil pass0 (pa_cons (pv 0) (pa_cons pe_int pa_nil))) (fun _ _ => rfl)))))))) (pss_one (ps_ret (pv 1))))))), ?_⟩
    have S : Sx (fun a => a = p__law_pool_here) F0 H0 F0 H0 := Sx.refl hE (live1 w__law_pool_here)
    unfold m_law_text at hm
    obtain ⟨t1, e2, hm⟩ := bd_some hm
    refine rd_seq ?_
    refine rd_asg ?_
    refine rd_c ?_
    refine rd_gn ?_
    refine rd_seq ?_
    refine rd_asg ?_
    refine rd_call ?_
    refine rd_cons ?_
    refine rd_v rfl ?_
    refine rd_cons ?_
    refine rd_c ?_
    refine rd_nil ?_
    refine ⟨F0, _, _, _, t1, rfl, S.sub, w__law_pool_here.arg, e2, fun v6 F3 H4 c5 w8 f7 => ?_⟩
    have S9 := S.call1 c5 w__law_pool_here
    have w10 := w__law_pool_here.back w8
    cases (show v6 = (V.int (t1.1)) from f7)
    obtain ⟨t11, e12, hm⟩ := bd_some hm
    refine rd_gn ?_
    refine rd_seq ?_
    refine rd_for ?_
    refine rd_iR1 ?_
    refine rd_cons ?_
    refine rd_op ?_
    refine rd_c ?_
    refine rd_call ?_
    refine rd_cons ?_
    refine rd_v rfl ?_
    refine rd_cons ?_
    refine rd_c ?_
    refine rd_nil ?_
    refine ⟨F3, _, _, _, t11, rfl, S9.sub, w10.arg, e12, fun v16 F13 H14 c15 w18 f17 => ?_⟩
    have S19 := S9.call1 c15 w10
    have w20 := w10.back w18
    cases (show v16 = (V.int (t11.1)) from f17)
    obtain ⟨g21, hm⟩ := gd_some hm
    refine rd_I0 ?_
    refine rd_nil ?_
    refine rd_r1 g21 ?_
    obtain ⟨t22, e23, hm⟩ := bd_some hm
    refine rd_forS feedsRg (typedR (K := K) (F := F13)) e23 (fun (s24 : ((Int × Int) × Str)) σ H => ∃ (F : Hp) (o3 : Option V), σ = [some (V.ref p__law_pool_here), some (V.str (s24.2)), some (V.int (t1.1)), o3] ∧ Sx (fun a => a = p__law_pool_here) F13 H14 F H ∧ Ow (fun a => a = p__law_pool_here) H14 F H p__law_pool_here (.lst [V.int s24.1.1, V.int s24.1.2])) ?_ ?_ ?_ ?_
    · intro _ _ _ _; trivial
    · skip
      have S26 : Sx (fun a => a = p__law_pool_here) _ _ _ _ := Sx.refl S19.sub (fun a z => by rw [z, w20.at_]; exact (fun h => nomatch h))
      have w27 : Ow (fun a => a = p__law_pool_here) H14 _ _ _ _ := ⟨w20.fr, w20.at_, .inr (rfl)⟩
      exact ⟨F13, _, rfl, S26, w27⟩
    · skip
      rintro x28 v29 s30 c34 σ31 H32 f33 ⟨F35, o37, rfl, S36, w38⟩ hm41
      unfold m_law_text_b1 at hm41
      cases (show v29 = (V.int (x28)) from f33)
      refine rd_gn ?_
      refine rd_ifS ?_
      refine rd_test ?_
      refine rd_op ?_
      refine rd_v rfl ?_
      refine rd_c ?_
      refine rd_I0 ?_
      refine rd_b ?_
      refine if_b hm41 (fun b42 hm41 => ?_) (fun b42 hm41 => ?_)
      · skip
        obtain ⟨t43, e44, hm41⟩ := bd_some hm41
        refine rd_asg ?_
        refine rd_op ?_
        refine rd_v rfl ?_
        refine rd_op ?_
        refine rd_call ?_
        refine rd_nil ?_
        refine ⟨F35, t43, rfl, S36.sub, e44, fun v48 F45 H46 c47 f49 => ?_⟩
        have S50 := S36.call0 c47
        have w38 := w38.call0 c47
        cases (show v48 = (V.str (t43)) from f49)
        obtain ⟨t51, e52, hm41⟩ := bd_some hm41
        refine rd_call ?_
        refine rd_cons ?_
        refine rd_v rfl ?_
        refine rd_cons ?_
        refine rd_c ?_
        refine rd_nil ?_
        refine ⟨F45, _, _, _, t51, rfl, S50.sub, w38.arg, e52, fun v56 F53 H54 c55 w58 f57 => ?_⟩
        have S59 := S50.call1 c55 w38
        have w60 := w38.back w58
        cases (show v56 = (V.int (t51.1)) from f57)
        obtain ⟨t61, e62, hm41⟩ := bd_some hm41
        obtain ⟨g63, hm41⟩ := gd_some hm41
        cases hm41
        refine rd_ixS e62 ?_
        refine rd_catS g63 ?_
        refine rd_gn ?_
        exact ⟨F53, _, rfl, S59, w60⟩
      · skip
        obtain ⟨t64, e65, hm41⟩ := bd_some hm41
        refine rd_asg ?_
        refine rd_op ?_
        refine rd_v rfl ?_
        refine rd_op ?_
        refine rd_c ?_
        refine rd_call ?_
        refine rd_cons ?_
        refine rd_v rfl ?_
        refine rd_cons ?_
        refine rd_c ?_
        refine rd_nil ?_
        refine ⟨F35, _, _, _, t64, rfl, S36.sub, w38.arg, e65, fun v69 F66 H67 c68 w71 f70 => ?_⟩
        have S72 := S36.call1 c68 w38
        have w73 := w38.back w71
        cases (show v69 = (V.int (t64.1)) from f70)
        obtain ⟨t74, e75, hm41⟩ := bd_some hm41
        obtain ⟨g76, hm41⟩ := gd_some hm41
        cases hm41
        refine rd_ixS e75 ?_
        refine rd_catS g76 ?_
        refine rd_gn ?_
        exact ⟨F66, _, rfl, S72, w73⟩
    · skip
      rintro σ77 H78 ⟨F79, o81, rfl, S80, w82⟩
      have S83 := S19.call1 S80 w20
      have w84 : Ow (fun a => a = p__law_pool_here) H0 _ _ _ _ := ⟨w82.fr, w82.at_, w20.mine⟩
      cases hm
      refine rd_ret ?_
      refine rd_v rfl ?_
      exact hQ _ _ _ S83 w84 rfl
def sp_law_parts (K : PySem.W.Frag) : Sp := fun vs H Q _ => ∃ (F : Hp) (p__law_pool_here : Addr) (a__law_pool_here : Int × Int) (r : ((List Str) × (Int × Int))), vs = [.ref p__law_pool_here] ∧ Same F H ∧ Ow (fun a => a = p__law_pool_here) H F H p__law_pool_here (.lst [.int a__law_pool_here.1, .int a__law_pool_here.2]) ∧ m_law_parts a__law_pool_here = some r ∧ ∀ v F' H', Sx (fun a => a = p__law_pool_here) F H F' H' → Ow (fun a => a = p__law_pool_here) H F' H' p__law_pool_here (.lst [.int r.2.1, .int r.2.2]) → (qL qS).r K F' v r.1 → Q v H'
theorem sc_law_parts : FnScope ["_law_pool_here", "_law_parts_here", "_law_k", "_law_kind", "_law_fixed"] ["_law_pool_here"] (defScope s_law_parts) := ⟨rfl, rfl, rfl, by decide +kernel, rfl, by decide +kernel, by decide +kernel⟩
theorem bn_law_parts (T : Tx P K mg) : Binds K (fdOf K ("_law_parts", none)) ["_law_pool_here"] [] := FunD.bindsN T.F_law_parts fun _ _ _ _ _ _ us hl => match us, hl with | [_], _ => rfl
theorem ok_law_parts (T : Tx P K mg) : FnOk P w K mg base CX0 3 (He.ga K "_law_parts") (fdOf K ("_law_parts", none)) ["_law_pool_here"] (sp_law_parts K) := by
  refine FunD.ok T.F_law_parts sc_law_parts (fun vs H0 Q E h => ?_) (fun cdv A outer s H0 vs Q E hr h => ?_)
  · obtain ⟨_, _, _, _, rfl, _⟩ := h
    rfl
  · obtain ⟨F0, p__law_pool_here, a__law_pool_here, r, rfl, hE, w__law_pool_here, hm, hQ⟩ := h
    refine ⟨_, PSs.nox ((pss_cons (ps_set (i := 1) sc_law_parts.nd rfl (dk rfl) (pe_lst pa_nil)) (pss_cons (ps_for PassesOwn.never rfl (pi_range1 (by rfl) T.n_range (pa_cons (pe_op op_add pe_int (pe_call (ok_law_take T) (hr.mono (by decide)) (by rfl) T.g_law_take T.F_law_take.kp (bn_law_take T) .nil pass0 (pa_cons (pv 0) (pa_cons pe_int pa_nil)))) pa_nil)) (pg_name (i := 2) sc_law_parts.nd rfl (dk rfl)) (pss_cons (ps_set (i := 3) sc_law_parts.nd rfl (dk rfl) (pe_call (ok_law_take T) (hr.mono (by decide)) (by rfl) T.g_law_take T.F_law_take.kp (bn_law_take T) .nil pass0 (pa_cons (pv 0) (pa_cons pe_int pa_nil)))) (pss_cons (ps_set (i := 4) sc_law_parts.nd rfl (dk rfl) (pe_and (pe_cmpR (r := rNeD K) (op_neD hr.units) (pv 1) (pe_lst pa_nil) (nomark _)) (pe_one (pe_cmpR (r := rIn K true) op_notIn_seq (pe_ix (r := rIxL K) ix_list (pv 1) (pe_un un_neg pe_int) (fun _ _ => rfl)) (pe_tup (pa_cons pe_str (pa_cons pe_str (pa_cons pe_str pa_nil)))) rfl)))) (pss_one (ps_if (PW.pt (pw_and (pt_cmpR op_eqI (pv 3) pe_int (nomark _)) (pw_and1 (pt_cmpR (r := rIn K true) op_notIn_seq pe_str (pv 1) rfl)))) (pss_one (ps_expr (pe_bmK (K := K) PySem.F.plainAttrs_list PySem.F.slot_list_append PySem.F.type_list_append mt_append (pv 1) (pa_cons pe_str pa_nil)))) (pss_one (ps_if (pt_cmpR op_eqI (pv 3) pe_int (nomark _)) (pss_one (ps_expr (pe_bmK (K := K) PySem.F.plainAttrs_list PySem.F.slot_list_append PySem.F.type_list_append mt_append (pv 1) (pa_cons pe_str pa_nil)))) (pss_one (ps_if (PW.pt (pw_or (pt_cmpR op_eqI (pv 3) pe_int (nomark _)) (pw_or1 (pt_val (pv 4))))) (pss_one (ps_expr (pe_bmK (K := K) PySem.F.plainAttrs_list PySem.F.slot_list_append PySem.F.type_list_append mt_append (pv 1) (pa_cons pe_str pa_nil)))) (pss_one (ps_expr (pe_bmK (K := K) PySem.F.plainAttrs_list PySem.F.slot_list_append PySem.F.type_list_append mt_append (pv 1) (pa_cons (pe_call (ok_law_text T) (hr.mono (by decide)) (by rfl) T.g_law_text T.F_law_text.kp (bn_law_text T) .nil pass0 (pa_cons (pv 0) pa_nil)) pa_nil))))))))))))) (pss_one (ps_ret (pv 1)))))), ?_⟩
    have S : Sx (fun a => a = p__law_pool_here) F0 H0 F0 H0 := Sx.refl hE (live1 w__law_pool_here)
    unfold m_law_parts at hm
    refine rd_seq ?_
    refine rd_asg ?_
    refine rd_lst ?_
    refine rd_nil ?_
    refine rd_lK rfl ?_
    refine al S (fun p1 H2 np3 c4 w5 => ?_)
    have r6 : Row qS K F0 [] ([] : List Str) := .nil
    have ne7 : p__law_pool_here ≠ p1 := w__law_pool_here.ne np3
    have z8 := S.free0 np3
    have S9 := S.call0 c4
    have w__law_pool_here := w__law_pool_here.call0 c4
    obtain ⟨t10, e11, hm⟩ := bd_some hm
    refine rd_gn ?_
    refine rd_seq ?_
    refine rd_for ?_
    refine rd_iR1 ?_
    refine rd_cons ?_
    refine rd_op ?_
    refine rd_c ?_
    refine rd_call ?_
    refine rd_cons ?_
    refine rd_v rfl ?_
    refine rd_cons ?_
    refine rd_c ?_
    refine rd_nil ?_
    refine ⟨F0, _, _, _, t10, rfl, S9.sub, w__law_pool_here.arg, e11, fun v15 F12 H13 c14 w17 f16 => ?_⟩
    have S18 := S9.call1 c14 w__law_pool_here
    have r6 := Row.mono c14.le r6
    have w5 := w5.call c14 (by intro z; exact (Ne.symm ne7) z)
    have w19 := w__law_pool_here.back w17
    cases (show v15 = (V.int (t10.1)) from f16)
    obtain ⟨g20, hm⟩ := gd_some hm
    refine rd_I0 ?_
    refine rd_nil ?_
    refine rd_r1 g20 ?_
    obtain ⟨t21, e22, hm⟩ := bd_some hm
    refine rd_forS feedsRg (typedR (K := K) (F := F12)) e22 (fun (s23 : ((Int × Int) × (List Str))) σ H => ∃ (F : Hp) (o2 : Option V) (o3 : Option V) (o4 : Option V) (vs1 : List V), σ = [some (V.ref p__law_pool_here), some (V.ref p1), o2, o3, o4] ∧ Sx (fun a => a = p__law_pool_here ∨ a = p1) F12 H13 F H ∧ Ow (fun a => a = p__law_pool_here ∨ a = p1) H13 F H p__law_pool_here (.lst [V.int s23.1.1, V.int s23.1.2]) ∧ Ow (fun a => a = p__law_pool_here ∨ a = p1) H13 F H p1 (.lst vs1) ∧ Row qS K F vs1 s23.2) ?_ ?_ ?_ ?_
    · intro _ _ _ _; trivial
    · skip
      have S25 : Sx (fun a => a = p__law_pool_here ∨ a = p1) _ _ _ _ := Sx.refl S18.sub (by
          rintro a (rfl | rfl)
          · rw [w19.at_]; exact (fun h => nomatch h)
          · rw [w5.at_]; exact (fun h => nomatch h))
      have w26 : Ow (fun a => a = p__law_pool_here ∨ a = p1) H13 _ _ _ _ := ⟨w19.fr, w19.at_, .inr (Or.inl rfl)⟩
      have w27 : Ow (fun a => a = p__law_pool_here ∨ a = p1) H13 _ _ _ _ := ⟨w5.fr, w5.at_, .inr (Or.inr (rfl))⟩
      exact ⟨F12, _, _, _, _, rfl, S25, w26, w27, r6⟩
    · skip
      rintro x28 v29 s30 c34 σ31 H32 f33 ⟨F35, o37, o38, o39, v40, rfl, S36, w41, w42, r43⟩ hm46
      unfold m_law_parts_b1 at hm46
      cases (show v29 = (V.int (x28)) from f33)
      obtain ⟨t47, e48, hm46⟩ := bd_some hm46
      refine rd_gn ?_
      refine rd_seq ?_
      refine rd_asg ?_
      refine rd_call ?_
      refine rd_cons ?_
      refine rd_v rfl ?_
      refine rd_cons ?_
      refine rd_c ?_
      refine rd_nil ?_
      refine ⟨F35, _, _, _, t47, rfl, S36.sub, w41.arg, e48, fun v52 F49 H50 c51 w54 f53 => ?_⟩
      have S55 := S36.call1 c51 w41
      have r43 := Row.mono c51.le r43
      have w42 := w42.call c51 (by intro z; exact (Ne.symm ne7) z)
      have w56 := w41.back w54
      cases (show v52 = (V.int (t47.1)) from f53)
      refine rd_gn ?_
      refine rd_seq ?_
      refine rd_asg ?_
      refine rd_andV ?_
      refine rd_op ?_
      refine rd_v rfl ?_
      refine rd_lst ?_
      refine rd_nil ?_
      refine rd_lK rfl ?_
      refine alL (K := K) (A := qS) (xs := ([] : List Str)) S55 .nil (fun v57 F58 H59 c60 f61 => ?_)
      have S62 := S55.call0 c60
      have w56 := w56.call0 c60
      have r43 := Row.mono c60.le r43
      have w42 := w42.call0 c60
      obtain ⟨g63, hm46⟩ := gd_some hm46
      obtain ⟨g64, hm46⟩ := gd_some hm46
      obtain ⟨t75, e76, hm46⟩ := bd_some hm46
      refine rd_neD (D := (dL dS)) (w42.dS S62.sub dS r43) (S62.d (dL dS) f61) g63 g64 ?_
      refine rd_b ?_
      refine andV_j (fun c H' => c = V.bl t75 ∧ ∃ F', Sx P0 F58 H59 F' H') ?_ ?_ ?_
      · intro b77 Q78 q79
        have e76 := if_t e76 b77
        have S80 := Sx.refl0 S62.sub
        obtain ⟨t81, e82, e76⟩ := bd_some e76
        refine rd_op ?_
        refine rd_op ?_
        refine rd_v rfl ?_
        refine rd_un ?_
        refine rd_c ?_
        refine rd_U ?_
        refine rd_ixL (w42.l r43).r e82 (fun u83 f84 => ?_)
        cases (show u83 = (V.str (t81)) from f84)
        refine rd_tup ?_
        refine rd_cons ?_
        refine rd_c ?_
        refine rd_cons ?_
        refine rd_c ?_
        refine rd_cons ?_
        refine rd_c ?_
        refine rd_nil ?_
        refine rd_uK rfl ?_
        refine alT (K := K) (A := qS) (xs := [("<any>" : Str), ("<digits>" : Str), ("<word>" : Str)]) S80 (.cons rfl (.cons rfl (.cons rfl .nil))) (fun v85 F86 H87 c88 f89 => ?_)
        have S90 := S80.call0 c88
        have w56 := w56.call0 c88
        have r43 := Row.mono c88.le r43
        have w42 := w42.call0 c88
        cases e76
        refine rd_niS (S90.t f89).q ?_
        exact q79 _ _ ⟨rfl, F86, S90⟩
      · intro b77
        have e76 := if_f e76 b77
        cases e76
        have S91 := Sx.refl0 S62.sub
        exact ⟨rfl, F58, S91⟩
      rintro b95 H93 ⟨rfl, F92, c94⟩
      have S96 := S62.call0 c94
      have w56 := w56.call0 c94
      have r43 := Row.mono c94.le r43
      have w42 := w42.call0 c94
      refine rd_gn ?_
      refine rd_ifS ?_
      refine rd_and ?_
      refine rd_test ?_
      refine rd_op ?_
      refine rd_v rfl ?_
      refine rd_c ?_
      refine rd_I0 ?_
      refine rd_b ?_
      refine and_p (by intro _ Q' q; refine rd_test ?_; refine rd_op ?_; refine rd_c ?_; refine rd_v rfl ?_; refine rd_niS (w42.l r43).r.q ?_; refine rd_b ?_; exact q) ?_
      refine if_b hm46 (fun b97 hm46 => ?_) (fun b97 hm46 => ?_)
      · skip
        obtain ⟨g98, hm46⟩ := gd_some hm46
        refine rd_drop ?_
        refine rd_bm ?_
        refine rd_v rfl ?_
        refine rd_ty w42.ty ?_
        refine rd_cons ?_
        refine rd_c ?_
        refine rd_nil ?_
        refine ap S96 w42 r43 g98 (fun H99 c100 w101 => ?_)
        have r102 := r43.snoc (show qS.r K F92 _ ("<any>" : Str) from rfl)
        have S103 := S96.call1 c100 w42
        have w56 := w56.call c100 (by intro z; exact ne7 z)
        have r102 := Row.mono c100.le r102
        cases hm46
        exact ⟨F92, _, _, _, _, rfl, S103, w56, w101, r102⟩
      · skip
        refine rd_ifS ?_
        refine rd_test ?_
        refine rd_op ?_
        refine rd_v rfl ?_
        refine rd_c ?_
        refine rd_I0 ?_
        refine rd_b ?_
        refine if_b hm46 (fun b104 hm46 => ?_) (fun b104 hm46 => ?_)
        · skip
          obtain ⟨g105, hm46⟩ := gd_some hm46
          refine rd_drop ?_
          refine rd_bm ?_
          refine rd_v rfl ?_
          refine rd_ty w42.ty ?_
          refine rd_cons ?_
          refine rd_c ?_
          refine rd_nil ?_
          refine ap S96 w42 r43 g105 (fun H106 c107 w108 => ?_)
          have r109 := r43.snoc (show qS.r K F92 _ ("<digits>" : Str) from rfl)
          have S110 := S96.call1 c107 w42
          have w56 := w56.call c107 (by intro z; exact ne7 z)
          have r109 := Row.mono c107.le r109
          cases hm46
          exact ⟨F92, _, _, _, _, rfl, S110, w56, w108, r109⟩
        · skip
          refine rd_ifS ?_
          refine rd_or ?_
          refine rd_test ?_
          refine rd_op ?_
          refine rd_v rfl ?_
          refine rd_c ?_
          refine rd_I0 ?_
          refine rd_b ?_
          refine or_p (by intro _ Q' q; refine rd_tB ?_; refine rd_v rfl ?_; refine rd_b ?_; exact q) ?_
          refine if_b hm46 (fun b111 hm46 => ?_) (fun b111 hm46 => ?_)
          · skip
            obtain ⟨g112, hm46⟩ := gd_some hm46
            refine rd_drop ?_
            refine rd_bm ?_
            refine rd_v rfl ?_
            refine rd_ty w42.ty ?_
            refine rd_cons ?_
            refine rd_c ?_
            refine rd_nil ?_
            refine ap S96 w42 r43 g112 (fun H113 c114 w115 => ?_)
            have r116 := r43.snoc (show qS.r K F92 _ ("<word>" : Str) from rfl)
            have S117 := S96.call1 c114 w42
            have w56 := w56.call c114 (by intro z; exact ne7 z)
            have r116 := Row.mono c114.le r116
            cases hm46
            exact ⟨F92, _, _, _, _, rfl, S117, w56, w115, r116⟩
          · skip
            obtain ⟨t118, e119, hm46⟩ := bd_some hm46
            refine rd_drop ?_
            refine rd_bm ?_
            refine rd_v rfl ?_
            refine rd_ty w42.ty ?_
            refine rd_cons ?_
            refine rd_call ?_
            refine rd_cons ?_
            refine rd_v rfl ?_
            refine rd_nil ?_
            refine ⟨F92, _, _, t118, rfl, S96.sub, w56.arg, e119, fun v123 F120 H121 c122 w125 f124 => ?_⟩
            have S126 := S96.call1 c122 w56
            have r43 := Row.mono c122.le r43
            have w42 := w42.call c122 (by intro z; exact (Ne.symm ne7) z)
            have w127 := w56.back w125
            cases (show v123 = (V.str (t118.1)) from f124)
            obtain ⟨g128, hm46⟩ := gd_some hm46
            refine rd_nil ?_
            refine ap S126 w42 r43 g128 (fun H129 c130 w131 => ?_)
            have r132 := r43.snoc (show qS.r K F120 _ t118.1 from rfl)
            have S133 := S126.call1 c130 w42
            have w127 := w127.call c130 (by intro z; exact ne7 z)
            have r132 := Row.mono c130.le r132
            cases hm46
            exact ⟨F120, _, _, _, _, rfl, S133, w127, w131, r132⟩
    · skip
      rintro σ134 H135 ⟨F136, o138, o139, o140, v141, rfl, S137, w142, w143, r144⟩
      have S145 := S18.call S137 (by
          rintro a (rfl | rfl)
          · exact w19.mine.symm
          · exact w5.mine.symm)
      have w146 : Ow (fun a => a = p__law_pool_here) H0 _ _ _ _ := ⟨w142.fr, w142.at_, w19.mine⟩
      have w147 : Ow (fun a => a = p__law_pool_here) H0 _ _ _ _ := ⟨w143.fr, w143.at_, w5.mine⟩
      obtain ⟨F148, S149, le150, f151, _, eq152⟩ := fz S145 w147 z8 r144
      have w146 := w146.fzO ne7 eq152
      cases hm
      refine rd_ret ?_
      refine rd_v rfl ?_
      exact hQ _ _ _ S149 w146 f151
def sp_Form___str__ (K : PySem.W.Frag) : Sp := fun vs H Q _ => ∃ (F : Hp) (v_self : V) (a_self : (List Str)) (r : Str), vs = [v_self] ∧ Same F H ∧ qForm.r K F v_self a_self ∧ m_Form___str__ a_self = some r ∧ ∀ v F' H', Sx P0 F H F' H' → qS.r K F' v r → Q v H'
theorem sc_Form___str__ : FnScope ["self"] ["self"] (defScope s_Form___str__) := ⟨rfl, rfl, rfl, by decide +kernel, rfl, by decide +kernel, by decide +kernel⟩
theorem bn_Form___str__ (T : Tx P K mg) : Binds K (fdOf K ("Form", some "__str__")) ["self"] [] := FunD.bindsN T.F_Form___str__ fun _ _ _ _ _ _ us hl => match us, hl with | [_], _ => rfl
theorem ok_Form___str__ (T : Tx P K mg) : FnOk P w K mg base CX0 1 (He.fAd K ("Form", some "__str__")) (fdOf K ("Form", some "__str__")) ["self"] (sp_Form___str__ K) := by
  refine FunD.ok T.F_Form___str__ sc_Form___str__ (fun vs H0 Q E h => ?_) (fun cdv A outer s H0 vs Q E hr h => ?_)
  · obtain ⟨_, _, _, _, rfl, _⟩ := h
    rfl
  · obtain ⟨F0, v_self, a_self, r, rfl, hE, f_self, hm, hQ⟩ := h
    refine ⟨_, PSs.nox ((pss_one (ps_ret (pe_bmK (K := K) PySem.F.plainAttrs_str PySem.F.slot_str_join PySem.F.type_str_join (mt_joinKK (K := K)) pe_str (pa_cons (pe_fldK (pv 0) rfl) pa_nil))))), ?_⟩
    have S : Sx P0 F0 H0 F0 H0 := Sx.refl0 hE
    unfold m_Form___str__ at hm
    refine rd_ret ?_
    refine rd_bm ?_
    refine rd_c ?_
    refine rd_ty (tyS_str) ?_
    refine rd_cons ?_
    refine rd_fld ?_
    refine rd_v rfl ?_
    refine fld_Form_pieces T S f_self (fun u1 f2 => ?_)
    obtain ⟨g3, hm⟩ := gd_some hm
    cases hm
    refine rd_nil ?_
    refine rd_join (S.t f2).q g3 ?_
    exact hQ _ _ _ S rfl
theorem okv_Form_str (T : Tx P K mg) (n : Nat) : FnOk P w K mg base CX0 (3 * n + 1) (He.fAd K ("Form", some "__str__")) (fdOf K ("Form", some "__str__")) ["self"] (sp_pat_str n "Form" K) := by
  refine ((ok_Form___str__ T).mono (by omega)).imp fun vs H0 Q E h => ?_
  obtain ⟨F0, v, a, r, rfl, hE, f, hc, hm, hQ⟩ := h
  obtain ⟨h1, h2, h3⟩ := patN_some hm
  cases a with
    | both _ _ => exact absurd (show ("Both" : Str) = "Form" from hc) (by decide)
    | either _ _ => exact absurd (show ("Either" : Str) = "Form" from hc) (by decide)
    | form a =>
    exact ⟨F0, v, a, r, rfl, hE, f, h3, hQ⟩
theorem sc_Both_str : FnScope ["self"] ["self"] (defScope s_Both___str__) := ⟨rfl, rfl, rfl, by decide +kernel, rfl, by decide +kernel, by decide +kernel⟩
theorem bn_Both_str (T : Tx P K mg) : Binds K (fdOf K ("Both", some "__str__")) ["self"] [] := FunD.bindsN T.F_Both___str__ fun _ _ _ _ _ _ us hl => match us, hl with | [_], _ => rfl
theorem okv_Both_str (T : Tx P K mg) {n : Nat} (V : VM P w K mg base (3 * n + 1) "__str__" ["self"] (fun x => sp_pat_str n x K)) : FnOk P w K mg base CX0 (3 * n + 4) (He.fAd K ("Both", some "__str__")) (fdOf K ("Both", some "__str__")) ["self"] (sp_pat_str (n + 1) "Both" K) := by
  refine FunD.ok T.F_Both___str__ sc_Both_str (fun vs H0 Q E h => ?_) (fun cdv A outer s H0 vs Q E hr h => ?_)
  · obtain ⟨_, _, _, _, rfl, _⟩ := h
    rfl
  · obtain ⟨F0, v, a, r, rfl, hE, f, hc, hm, hQ⟩ := h
    obtain ⟨h1, h2, h3⟩ := patN_some hm
    cases a with
    | form _ => exact absurd (show ("Form" : Str) = "Both" from hc) (by decide)
    | either _ _ => exact absurd (show ("Either" : Str) = "Both" from hc) (by decide)
    | both l r' =>
    obtain ⟨p, dx, u, w', rfl, e2, rl, rr⟩ := (show qPatR K F0 v (.both l r') from f)
    replace rl : qPat.r K F0 u l := rl
    replace rr : qPat.r K F0 w' r' := rr
    have hl : l.ht ≤ n ∧ r'.ht ≤ n := by
      have h1 : max l.ht r'.ht + 1 ≤ n + 1 := h1
      omega
    have hf : l.forms.length + r'.forms.length ≤ 16 := by
      have h2 : (l.forms ++ r'.forms).length ≤ 16 := h2
      rw [List.length_append] at h2
      exact h2
    obtain ⟨x, ex, h3⟩ := bd_some (show (l.str.bind fun x => r'.str.bind fun y => gd (joinPok (" & " : Str) x y) (some (joinP (" & " : Str) x y))) = some r from h3)
    obtain ⟨y, ey, h3⟩ := bd_some h3
    obtain ⟨g, h3⟩ := gd_some h3
    cases h3
    obtain ⟨g1, g2, g3, g4, g5, g6, g7⟩ := joinPok_len g
    refine ⟨_, PSs.nox (pss_one (ps_ret (pe_joined (.cons pe_str (.cons (pe_fmt (pe_callTy (r := rStrW P w K mg base (3 * n + 1)) (cr_strW (hr.mono (by omega))) (by rfl) T.n_str (by decide +kernel) (pa_cons (pe_fldK (pv 0) rfl) pa_nil))) (.cons pe_str (.cons (pe_fmt (pe_callTy (r := rStrW P w K mg base (3 * n + 1)) (cr_strW (hr.mono (by omega))) (by rfl) T.n_str (by decide +kernel) (pa_cons (pe_fldK (pv 0) rfl) pa_nil))) (.cons pe_str .nil)))))))), ?_⟩
    have S : Sx P0 F0 H0 F0 H0 := Sx.refl0 hE
    refine rd_ret ?_
    refine rd_js ?_
    refine rd_c ?_
    refine js_at g3 ?_
    refine rd_js ?_
    refine rd_fm ?_
    refine rd_cb ?_
    refine rd_cons ?_
    refine rd_fld ?_
    refine rd_v rfl ?_
    refine fd_at (S.sub _ _ e2) T.c_Both T.na_Both_left (by rfl) ?_
    refine rd_nil ?_
    refine V.strW S rl ?_
    refine ⟨F0, _, _, _, rfl, S.sub, rl, rfl, (patN_of hl.1 (by omega)).trans ex, fun v1 F1 H1 c1 f1 => ?_⟩
    cases (show v1 = .str x from f1)
    have S1 := S.call0 c1
    have rr := qPat.mono c1.le rr
    refine rd_stK ?_
    refine fm_at g1 ?_
    refine js_at g4 ?_
    refine rd_js ?_
    refine rd_c ?_
    refine js_at g5 ?_
    refine rd_js ?_
    refine rd_fm ?_
    refine rd_cb ?_
    refine rd_cons ?_
    refine rd_fld ?_
    refine rd_v rfl ?_
    refine fd_at (S1.sub _ _ (S1.le _ _ e2)) T.c_Both T.na_Both_right (by rfl) ?_
    refine rd_nil ?_
    refine V.strW S1 rr ?_
    refine ⟨F1, _, _, _, rfl, S1.sub, rr, rfl, (patN_of hl.2 (by omega)).trans ey, fun v2 F2 H2 c2 f2 => ?_⟩
    cases (show v2 = .str y from f2)
    have S2 := S1.call0 c2
    refine rd_stK ?_
    refine fm_at g2 ?_
    refine js_at g6 ?_
    refine rd_js ?_
    refine rd_c ?_
    refine js_at g7 ?_
    refine rd_js0 ?_
    exact hQ _ _ _ S2 rfl
theorem sc_Either_str : FnScope ["self"] ["self"] (defScope s_Either___str__) := ⟨rfl, rfl, rfl, by decide +kernel, rfl, by decide +kernel, by decide +kernel⟩
theorem bn_Either_str (T : Tx P K mg) : Binds K (fdOf K ("Either", some "__str__")) ["self"] [] := FunD.bindsN T.F_Either___str__ fun _ _ _ _ _ _ us hl => match us, hl with | [_], _ => rfl
theorem okv_Either_str (T : Tx P K mg) {n : Nat} (V : VM P w K mg base (3 * n + 1) "__str__" ["self"] (fun x => sp_pat_str n x K)) : FnOk P w K mg base CX0 (3 * n + 4) (He.fAd K ("Either", some "__str__")) (fdOf K ("Either", some "__str__")) ["self"] (sp_pat_str (n + 1) "Either" K) := by
  refine FunD.ok T.F_Either___str__ sc_Either_str (fun vs H0 Q E h => ?_) (fun cdv A outer s H0 vs Q E hr h => ?_)
  · obtain ⟨_, _, _, _, rfl, _⟩ := h
    rfl
  · obtain ⟨F0, v, a, r, rfl, hE, f, hc, hm, hQ⟩ := h
    obtain ⟨h1, h2, h3⟩ := patN_some hm
    cases a with
    | form _ => exact absurd (show ("Form" : Str) = "Either" from hc) (by decide)
    | both _ _ => exact absurd (show ("Both" : Str) = "Either" from hc) (by decide)
    | either l r' =>
    obtain ⟨p, dx, u, w', rfl, e2, rl, rr⟩ := (show qPatR K F0 v (.either l r') from f)
    replace rl : qPat.r K F0 u l := rl
    replace rr : qPat.r K F0 w' r' := rr
    have hl : l.ht ≤ n ∧ r'.ht ≤ n := by
      have h1 : max l.ht r'.ht + 1 ≤ n + 1 := h1
      omega
    have hf : l.forms.length + r'.forms.length ≤ 16 := by
      have h2 : (l.forms ++ r'.forms).length ≤ 16 := h2
      rw [List.length_append] at h2
      exact h2
    obtain ⟨x, ex, h3⟩ := bd_some (show (l.str.bind fun x => r'.str.bind fun y => gd (joinPok (" | " : Str) x y) (some (joinP (" | " : Str) x y))) = some r from h3)
    obtain ⟨y, ey, h3⟩ := bd_some h3
    obtain ⟨g, h3⟩ := gd_some h3
    cases h3
    obtain ⟨g1, g2, g3, g4, g5, g6, g7⟩ := joinPok_len g
    refine ⟨_, PSs.nox (pss_one (ps_ret (pe_joined (.cons pe_str (.cons (pe_fmt (pe_callTy (r := rStrW P w K mg base (3 * n + 1)) (cr_strW (hr.mono (by omega))) (by rfl) T.n_str (by decide +kernel) (pa_cons (pe_fldK (pv 0) rfl) pa_nil))) (.cons pe_str (.cons (pe_fmt (pe_callTy (r := rStrW P w K mg base (3 * n + 1)) (cr_strW (hr.mono (by omega))) (by rfl) T.n_str (by decide +kernel) (pa_cons (pe_fldK (pv 0) rfl) pa_nil))) (.cons pe_str .nil)))))))), ?_⟩
    have S : Sx P0 F0 H0 F0 H0 := Sx.refl0 hE
    refine rd_ret ?_
    refine rd_js ?_
    refine rd_c ?_
    refine js_at g3 ?_
    refine rd_js ?_
    refine rd_fm ?_
    refine rd_cb ?_
    refine rd_cons ?_
    refine rd_fld ?_
    refine rd_v rfl ?_
    refine fd_at (S.sub _ _ e2) T.c_Either T.na_Either_left (by rfl) ?_
    refine rd_nil ?_
    refine V.strW S rl ?_
    refine ⟨F0, _, _, _, rfl, S.sub, rl, rfl, (patN_of hl.1 (by omega)).trans ex, fun v1 F1 H1 c1 f1 => ?_⟩
    cases (show v1 = .str x from f1)
    have S1 := S.call0 c1
    have rr := qPat.mono c1.le rr
    refine rd_stK ?_
    refine fm_at g1 ?_
    refine js_at g4 ?_
    refine rd_js ?_
    refine rd_c ?_
    refine js_at g5 ?_
    refine rd_js ?_
    refine rd_fm ?_
    refine rd_cb ?_
    refine rd_cons ?_
    refine rd_fld ?_
    refine rd_v rfl ?_
    refine fd_at (S1.sub _ _ (S1.le _ _ e2)) T.c_Either T.na_Either_right (by rfl) ?_
    refine rd_nil ?_
    refine V.strW S1 rr ?_
    refine ⟨F1, _, _, _, rfl, S1.sub, rr, rfl, (patN_of hl.2 (by omega)).trans ey, fun v2 F2 H2 c2 f2 => ?_⟩
    cases (show v2 = .str y from f2)
    have S2 := S1.call0 c2
    refine rd_stK ?_
    refine fm_at g2 ?_
    refine js_at g6 ?_
    refine rd_js ?_
    refine rd_c ?_
    refine js_at g7 ?_
    refine rd_js0 ?_
    exact hQ _ _ _ S2 rfl
theorem okv_void_str {C : Str} (hC : C = "Both" ∨ C = "Either") : FnOk P w K mg base CX0 1 (He.fAd K (C, some "__str__")) (fdOf K (C, some "__str__")) ["self"] (sp_pat_str 0 C K) := by
  have no : ∀ vs H Q E, ¬ sp_pat_str 0 C K vs H Q E := by
    intro vs H Q E h
    obtain ⟨_, _, a, _, _, _, _, hc, hm, _⟩ := h
    obtain ⟨h1, _, _⟩ := patN_some hm
    cases a with
    | form _ =>
      subst hc
      rcases hC with h | h
      · exact absurd (show ("Form" : Str) = "Both" from h) (by decide)
      · exact absurd (show ("Form" : Str) = "Either" from h) (by decide)
    | both l r => exact absurd (show max l.ht r.ht + 1 ≤ 0 from h1) (by omega)
    | either l r => exact absurd (show max l.ht r.ht + 1 ≤ 0 from h1) (by omega)
  exact ⟨fun vs H Q E h => absurd h (no vs H Q E), fun A outer s H args us vs Q E hr he hb hv h => absurd h (no vs H Q E)⟩
theorem vm_str (T : Tx P K mg) : ∀ n, VM P w K mg base (3 * n + 1) "__str__" ["self"] (fun x => sp_pat_str n x K)
  | 0 => ⟨fun x hx => by
    rcases hx with rfl | rfl | rfl
    · exact ⟨T.c_Form, T.me_Form___str__, okv_Form_str T 0, bn_Form___str__ T⟩
    · exact ⟨T.c_Both, T.me_Both___str__, okv_void_str (.inl rfl), bn_Both_str T⟩
    · exact ⟨T.c_Either, T.me_Either___str__, okv_void_str (.inr rfl), bn_Either_str T⟩⟩
  | n + 1 => ⟨fun x hx => by
    have V := vm_str T n
    rcases hx with rfl | rfl | rfl
    · exact ⟨T.c_Form, T.me_Form___str__, okv_Form_str T (n + 1), bn_Form___str__ T⟩
    · exact ⟨T.c_Both, T.me_Both___str__, okv_Both_str T V, bn_Both_str T⟩
    · exact ⟨T.c_Either, T.me_Either___str__, okv_Either_str T V, bn_Either_str T⟩⟩
def sp_Rule_begins (K : PySem.W.Frag) : Sp := fun vs H Q _ => ∃ (F : Hp) (v_self : V) (a_self : (List Pat × List Pat × List (Str × Th))) (r : (List Pat)), vs = [v_self] ∧ Same F H ∧ qRule.r K F v_self a_self ∧ m_Rule_begins a_self = some r ∧ ∀ v F' H', Sx P0 F H F' H' → (qL qPat).r K F' v r → Q v H'
theorem sc_Rule_begins : FnScope ["self"] ["self"] (defScope s_Rule_begins) := ⟨rfl, rfl, rfl, by decide +kernel, rfl, by decide +kernel, by decide +kernel⟩
theorem bn_Rule_begins (T : Tx P K mg) : Binds K (fdOf K ("Rule", some "begins")) ["self"] [] := FunD.bindsN T.F_Rule_begins fun _ _ _ _ _ _ us hl => match us, hl with | [_], _ => rfl
theorem ok_Rule_begins (T : Tx P K mg) : FnOk P w K mg base CX0 1 (He.fAd K ("Rule", some "begins")) (fdOf K ("Rule", some "begins")) ["self"] (sp_Rule_begins K) := by
  refine FunD.ok T.F_Rule_begins sc_Rule_begins (fun vs H0 Q E h => ?_) (fun cdv A outer s H0 vs Q E hr h => ?_)
  · obtain ⟨_, _, _, _, rfl, _⟩ := h
    rfl
  · obtain ⟨F0, v_self, a_self, r, rfl, hE, f_self, hm, hQ⟩ := h
    refine ⟨_, PSs.nox ((pss_one (ps_ret (pe_callTy (r := rListQ K) cr_listQ (by rfl) T.n_list (by decide +kernel) (pa_cons (pe_fldK (pv 0) rfl) pa_nil))))), ?_⟩
    have S : Sx P0 F0 H0 F0 H0 := Sx.refl0 hE
    unfold m_Rule_begins at hm
    refine rd_ret ?_
    refine rd_cb ?_
    refine rd_cons ?_
    refine rd_fld ?_
    refine rd_v rfl ?_
    refine fld_Rule_openers T S f_self (fun u1 f2 => ?_)
    refine rd_nil ?_
    refine rd_listQ (S.l f2).r.q ?_
    refine alL' S (fun v3 F4 H5 c6 f7 => ?_)
    have S8 := S.call0 c6
    have f_self := qRule.mono c6.le f_self
    cases hm
    exact hQ _ _ _ S8 f7
def sp_Rule_begins_vo (K : PySem.W.Frag) : Sp := fun vs H Q _ => ∃ (F : Hp) (p_self : Addr) (dx : Addr) (u_openers : V) (u_closers : V) (u_settings : V) (a_self : ((List Pat) × (List Pat) × (List (Str × Th)))) (r : (List Pat)), vs = [.ref p_self] ∧ Same F H ∧ Ow (fun a => a = p_self) H F H p_self (.ins (He.ga K "Rule") dx [("openers", u_openers), ("closers", u_closers), ("settings", u_settings)]) ∧ (qL qPat).r K F u_openers a_self.1 ∧ (qL qPat).r K F u_closers a_self.2.1 ∧ qSd.r K F u_settings a_self.2.2 ∧ m_Rule_begins_vo a_self = some r ∧ ∀ p us F' H', H p = none → Sx P0 F H F' H' → Ow (fun a => a = p) H F' H' p (.lst us) → Row qPat K F' us r → Q (.ref p) H'
theorem sc_Rule_begins_vo : FnScope ["self"] ["self"] (defScope s_Rule_begins) := ⟨rfl, rfl, rfl, by decide +kernel, rfl, by decide +kernel, by decide +kernel⟩
theorem bn_Rule_begins_vo (T : Tx P K mg) : Binds K (fdOf K ("Rule", some "begins")) ["self"] [] := FunD.bindsN T.F_Rule_begins fun _ _ _ _ _ _ us hl => match us, hl with | [_], _ => rfl
theorem ok_Rule_begins_vo (T : Tx P K mg) : FnOk P w K mg base CX0 1 (He.fAd K ("Rule", some "begins")) (fdOf K ("Rule", some "begins")) ["self"] (sp_Rule_begins_vo K) := by
  refine FunD.ok T.F_Rule_begins sc_Rule_begins_vo (fun vs H0 Q E h => ?_) (fun cdv A outer s H0 vs Q E hr h => ?_)
  · obtain ⟨_, _, _, _, _, _, _, _, rfl, _⟩ := h
    rfl
  · obtain ⟨F0, p_self, dx, u_openers, u_closers, u_settings, a_self, r, rfl, hE, w_self, f_openers, f_closers, f_settings, hm, hQ⟩ := h
    refine ⟨_, PSs.nox ((pss_one (ps_ret (pe_callTy (r := rListQ K) cr_listQ (by rfl) T.n_list (by decide +kernel) (pa_cons (pe_fldK (pv 0) rfl) pa_nil))))), ?_⟩
    have S : Sx P0 F0 H0 F0 H0 := Sx.refl0 hE
    unfold m_Rule_begins_vo at hm
    refine rd_ret ?_
    refine rd_cb ?_
    refine rd_cons ?_
    refine rd_fld ?_
    refine rd_v rfl ?_
    refine fd_at w_self.at_ T.c_Rule T.na_Rule_openers (by rfl) ?_
    refine rd_nil ?_
    refine rd_listQ (S.l f_openers).r.q ?_
    refine alO' S (fun p1 us2 H3 np4 c5 w6 r7 => ?_)
    have ne8 : p_self ≠ p1 := w_self.ne np4
    have z9 := S.free0 np4
    have S10 := S.call0 c5
    have f_openers := (qL qPat).mono c5.le f_openers
    have f_closers := (qL qPat).mono c5.le f_closers
    have f_settings := qSd.mono c5.le f_settings
    have w_self := w_self.call0 c5
    cases hm
    exact hQ _ _ _ _ z9 S10 ⟨w6.fr, w6.at_, .inr rfl⟩ r7
def sp_Rule_ends (K : PySem.W.Frag) : Sp := fun vs H Q _ => ∃ (F : Hp) (v_self : V) (a_self : (List Pat × List Pat × List (Str × Th))) (r : (List Pat)), vs = [v_self] ∧ Same F H ∧ qRule.r K F v_self a_self ∧ m_Rule_ends a_self = some r ∧ ∀ v F' H', Sx P0 F H F' H' → (qL qPat).r K F' v r → Q v H'
theorem sc_Rule_ends : FnScope ["self"] ["self"] (defScope s_Rule_ends) := ⟨rfl, rfl, rfl, by decide +kernel, rfl, by decide +kernel, by decide +kernel⟩
theorem bn_Rule_ends (T : Tx P K mg) : Binds K (fdOf K ("Rule", some "ends")) ["self"] [] := FunD.bindsN T.F_Rule_ends fun _ _ _ _ _ _ us hl => match us, hl with | [_], _ => rfl
theorem ok_Rule_ends (T : Tx P K mg) : FnOk P w K mg base CX0 1 (He.fAd K ("Rule", some "ends")) (fdOf K ("Rule", some "ends")) ["self"] (sp_Rule_ends K) := by
  refine FunD.ok T.F_Rule_ends sc_Rule_ends (fun vs H0 Q E h => ?_) (fun cdv A outer s H0 vs Q E hr h => ?_)
  · obtain ⟨_, _, _, _, rfl, _⟩ := h
    rfl
  · obtain ⟨F0, v_self, a_self, r, rfl, hE, f_self, hm, hQ⟩ := h
    refine ⟨_, PSs.nox ((pss_one (ps_ret (pe_callTy (r := rListQ K) cr_listQ (by rfl) T.n_list (by decide +kernel) (pa_cons (pe_fldK (pv 0) rfl) pa_nil))))), ?_⟩
    have S : Sx P0 F0 H0 F0 H0 := Sx.refl0 hE
    unfold m_Rule_ends at hm
    refine rd_ret ?_
    refine rd_cb ?_
    refine rd_cons ?_
    refine rd_fld ?_
    refine rd_v rfl ?_
    refine fld_Rule_closers T S f_self (fun u1 f2 => ?_)
    refine rd_nil ?_
    refine rd_listQ (S.l f2).r.q ?_
    refine alL' S (fun v3 F4 H5 c6 f7 => ?_)
    have S8 := S.call0 c6
    have f_self := qRule.mono c6.le f_self
    cases hm
    exact hQ _ _ _ S8 f7
def sp_Rule_ends_vo (K : PySem.W.Frag) : Sp := fun vs H Q _ => ∃ (F : Hp) (p_self : Addr) (dx : Addr) (u_openers : V) (u_closers : V) (u_settings : V) (a_self : ((List Pat) × (List Pat) × (List (Str × Th)))) (r : (List Pat)), vs = [.ref p_self] ∧ Same F H ∧ Ow (fun a => a = p_self) H F H p_self (.ins (He.ga K "Rule") dx [("openers", u_openers), ("closers", u_closers), ("settings", u_settings)]) ∧ (qL qPat).r K F u_openers a_self.1 ∧ (qL qPat).r K F u_closers a_self.2.1 ∧ qSd.r K F u_settings a_self.2.2 ∧ m_Rule_ends_vo a_self = some r ∧ ∀ p us F' H', H p = none → Sx P0 F H F' H' → Ow (fun a => a = p) H F' H' p (.lst us) → Row qPat K F' us r → Q (.ref p) H'
theorem sc_Rule_ends_vo : FnScope ["self"] ["self"] (defScope s_Rule_ends) := ⟨rfl, rfl, rfl, by decide +kernel, rfl, by decide +kernel, by decide +kernel⟩
theorem bn_Rule_ends_vo (T : Tx P K mg) : Binds K (fdOf K ("Rule", some "ends")) ["self"] [] := FunD.bindsN T.F_Rule_ends fun _ _ _ _ _ _ us hl => match us, hl with | [_], _ => rfl
theorem ok_Rule_ends_vo (T : Tx P K mg) : FnOk P w K mg base CX0 1 (He.fAd K ("Rule", some "ends")) (fdOf K ("Rule", some "ends")) ["self"] (sp_Rule_ends_vo K) := by
  refine FunD.ok T.F_Rule_ends sc_Rule_ends_vo (fun vs H0 Q E h => ?_) (fun cdv A outer s H0 vs Q E hr h => ?_)
  · obtain ⟨_, _, _, _, _, _, _, _, rfl, _⟩ := h
    rfl
  · obtain ⟨F0, p_self, dx, u_openers, u_closers, u_settings, a_self, r, rfl, hE, w_self, f_openers, f_closers, f_settings, hm, hQ⟩ := h
    refine ⟨_, PSs.nox ((pss_one (ps_ret (pe_callTy (r := rListQ K) cr_listQ (by rfl) T.n_list (by decide +kernel) (pa_cons (pe_fldK (pv 0) rfl) pa_nil))))), ?_⟩
    have S : Sx P0 F0 H0 F0 H0 := Sx.refl0 hE
    unfold m_Rule_ends_vo at hm
    refine rd_ret ?_
    refine rd_cb ?_
    refine rd_cons ?_
    refine rd_fld ?_
    refine rd_v rfl ?_
    refine fd_at w_self.at_ T.c_Rule T.na_Rule_closers (by rfl) ?_
    refine rd_nil ?_
    refine rd_listQ (S.l f_closers).r.q ?_
    refine alO' S (fun p1 us2 H3 np4 c5 w6 r7 => ?_)
    have ne8 : p_self ≠ p1 := w_self.ne np4
    have z9 := S.free0 np4
    have S10 := S.call0 c5
    have f_openers := (qL qPat).mono c5.le f_openers
    have f_closers := (qL qPat).mono c5.le f_closers
    have f_settings := qSd.mono c5.le f_settings
    have w_self := w_self.call0 c5
    cases hm
    exact hQ _ _ _ _ z9 S10 ⟨w6.fr, w6.at_, .inr rfl⟩ r7
def sp_Rule_change_vx (ks : List Str) (K : PySem.W.Frag) : Sp := fun vs H Q E => ∃ (F : Hp) (p_self : Addr) (dx : Addr) (u_openers : V) (u_closers : V) (u_settings : V) (a_self : ((List Pat) × (List Pat) × (List (Str × Th)))) (zs : List V) (ts : List Th) (rr : (Except Str (Unit × List (Str × Th)))), vs = .ref p_self :: zs ∧ Same F H ∧ Ow (fun a => a = p_self) H F H p_self (.ins (He.ga K "Rule") dx [("openers", u_openers), ("closers", u_closers), ("settings", u_settings)]) ∧ (qL qPat).r K F u_openers a_self.1 ∧ (qL qPat).r K F u_closers a_self.2.1 ∧ qSd.r K F u_settings a_self.2.2 ∧ zs.length = ks.length ∧ Row qTh K F zs ts ∧ m_Rule_change_vx ks a_self ts = some rr ∧ (∀ r, rr = .ok r → ∀ (v : V) (F' H' : Hp) (u'_settings : V), Sx (fun a => a = p_self) F H F' H' → Ow (fun a => a = p_self) H F' H' p_self (.ins (He.ga K "Rule") dx [("openers", u_openers), ("closers", u_closers), ("settings", u'_settings)]) → qSd.r K F' u'_settings r.2 → qN.r K F' v r.1 → Q v H') ∧ (∀ e cls d F' H', rr = .error e → Sx (fun a => a = p_self) F H F' H' → Ow (fun a => a = p_self) H F' H' p_self (.ins (He.ga K "Rule") dx [("openers", u_openers), ("closers", u_closers), ("settings", u_settings)]) → ErrAt K H' "NoRule" ["field"] [.str e] cls d → E cls d H')
theorem sc_Rule_change_vx : FnScope ["self", "settings", "name"] ["self", "settings"] (defScope s_Rule_change) := ⟨rfl, rfl, rfl, by decide +kernel, rfl, by decide +kernel, by decide +kernel⟩
theorem ok_Rule_change_vx (T : Tx P K mg) {ks : List Str} (hks : ks.Nodup) (hl : ks.length ≤ 100)
    (hb : ∀ (kV doc pm : Value) (an : Option Addr) (cdv ct u : Value) (xs : List Value), xs.length = ks.length → BindN ks "settings" "self" u xs (bindArgs (PySem.W.fnOf "change" "Rule.change" (defArgs s_Rule_change) (defBody s_Rule_change) (defScope s_Rule_change) .none kV doc pm an cdv ct) ⟨[u], ks.zip xs⟩)) :
    FnKwN P w K mg base (L2.CX P w) 4 (He.fAd K ("Rule", some "change")) ks (spN (sp_Rule_change_vx ks K)) := by
  obtain ⟨oc, od, dV, kV, doc, pm, an, cdv, ct, osl, efd, lk, hcd, hD, hK⟩ := T.F_Rule_change.ex
  rw [efd] at lk
  obtain ⟨_, rfl⟩ | ⟨nD, _⟩ := hD
  rotate_left
  · exact absurd rfl nD
  refine FnKwN.mono (fn_kwN (p1 := "self") (pv := "settings") (sp := kwBN ks (sp_Rule_change_vx ks K)) lk hcd sc_Rule_change_vx StX.cxUp hks hl (fun u xs lx => hb kV doc pm an cdv ct u xs lx) (fun A outer s H1 vs Q E hr h => ?_)) (fun v zs H Q E q => kwBN_of v zs H Q E q)
  · obtain ⟨p, v, zs, H0, rfl, hp, rfl, F0, p_self, dx, u_openers, u_closers, u_settings, a_self, zs', ts, rr, e0, hE, w_self, f_openers, f_closers, f_settings, hz, rz, hm, hQ, hX⟩ := h
    cases e0
    refine ⟨_, (pss_cons (ps_lock (ps_for owns_cx rfl (pi_keys (pv 1)) (pg_name (i := 2) sc_Rule_change_vx.nd rfl (dk rfl)) (pss_one (ps_if (pt_cmpR (r := rIn K true) op_notIn_seq (pv 2) (pe_glob (v := V.ref (He.ga K "FIELDS")) (by rfl) T.g_FIELDS rfl) rfl) (pss_one (ps_rz (pmk_err (k := 0) T.er_NoRule.c is_NoRule T.er_NoRule.no T.er_NoRule.g T.er_NoRule.k (hr.mono (by decide)) (by rfl) (pa_cons pe_str pa_nil)))) pss_nil)))) (pss_cons (ps_expr (pe_call (ok_check_settings_vx T) (hr.mono (by decide)) (by rfl) T.g_check_settings T.F_check_settings.kp (bn_check_settings_vx T) .nil passes_cx (pa_cons (pv 1) pa_nil))) (pss_one (ps_fld (pv 0) (pe_splat (pe_fldK (pv 0) rfl) (pv 1)) rfl)))), ?_⟩
    have w0 := w_self
    have SP : Sx P0 F0 H0 F0 (upd H0 p (.dK (kwRowV ks zs))) := (Sx.refl0 hE).temp hp
    have wP : Ow P0 H0 F0 (upd H0 p (.dK (kwRowV ks zs))) p (.dK (kwRowV ks zs)) := (Sx.refl0 hE).own hp
    have S0 : Sx (fun a => a = p_self) F0 H0 F0 H0 := Sx.refl hE (live1 w_self)
    have S : Sx (fun a => a = p_self) F0 H0 F0 (upd H0 p (.dK (kwRowV ks zs))) := S0.temp hp
    have wd : Ow (fun a => a = p_self) H0 F0 (upd H0 p (.dK (kwRowV ks zs))) p (.dK (kwRowV ks zs)) := S0.own hp
    have np : p_self ≠ p := w_self.ne hp
    have w_self := w_self.temp (u := (.dK (kwRowV ks zs))) hp
    have f1 : (qT qS).r K F0 (.ref (He.ga K "FIELDS")) (["most", "alone", "tags", "quiet"] : List Str) := T.q_FIELDS _
    unfold m_Rule_change_vx at hm
    refine rd_seq ?_
    refine rd_kwForN (ok := fun k => k ∈ (["most", "alone", "tags", "quiet"] : List Str)) upd_same hz (fun H1 Q k => rd_v rfl k) (fun σ => ∃ o, σ = [some (.ref p_self), some (.ref p), o]) ⟨_, rfl⟩ ?_ ?_
    · rintro od k _ N R B C hk ⟨o, rfl⟩ hN
      have SF := SP.call1 (putS (u := .frz od (.dK (kwRowV ks zs))) SP wP) wP
      refine rd_gn ?_
      refine rd_ifS ?_
      refine rd_test ?_
      refine rd_op ?_
      refine rd_v rfl ?_
      refine rd_c ?_
      refine rd_niS (SF.t f1).q ?_
      refine rd_b ?_
      refine if_j (fun b => ?_) (fun b => ?_)
      · have bad : k ∉ (["most", "alone", "tags", "quiet"] : List Str) := fun h => by rw [decide_eq_true h] at b; cases b
        have hm := if_f hm (by
          cases q : ks.all fun k => decide (k ∈ (["most", "alone", "tags", "quiet"] : List Str)) with
          | false => rfl
          | true => exact absurd (of_decide_eq_true (List.all_eq_true.mp q k hk)) bad)
        cases hm
        refine rd_rz ?_
        refine rd_cons ?_
        refine rd_c ?_
        refine rd_nil ?_
        exact rd_eK (xs := [.str (("name" : Str))]) SF rfl rfl fun cls d H1 c er => hX _ _ _ _ _ rfl (Sx.wide c (live1 (w0.call0 c))) (w0.call0 c) er
      · have good : k ∈ (["most", "alone", "tags", "quiet"] : List Str) := by
          cases q : decide (k ∈ (["most", "alone", "tags", "quiet"] : List Str)) with
          | true => exact of_decide_eq_true q
          | false => rw [q] at b; cases b
        refine rd_next ?_
        exact hN good _ ⟨_, rfl⟩
    · rintro _ ⟨o, rfl⟩ hall
      have hm := if_t hm (List.all_eq_true.mpr fun k hk => decide_eq_true (hall k hk))
      obtain ⟨t1, ht, hm⟩ := bd_some hm
      obtain ⟨F4, SP4, le4, f4, eq4⟩ := fzSd SP wP hp (sdrow_zip (ks := ks) rz)
      have w_self : Ow (fun a => a = p_self) H0 F0 (upd H0 p (.dK (kwRowV ks zs))) p_self _ := w_self
      have S4 : Sx (fun a => a = p_self) F0 H0 F4 (upd H0 p (.dK (kwRowV ks zs))) := Sx.wide SP4 (live1 w_self)
      have f_openers := (qL qPat).mono le4 f_openers
      have f_closers := (qL qPat).mono le4 f_closers
      have f_settings := qSd.mono le4 f_settings
      have w_self := w_self.fzO np eq4
      dsimp only
      refine rd_seq ?_
      refine rd_drop ?_
      refine rd_call ?_
      refine rd_cons ?_
      refine rd_v rfl ?_
      refine rd_nil ?_
      refine ⟨F4, _, _, t1, rfl, SP4.sub, f4, ht, ?_, ?_⟩
      rotate_left
      · intro e cls d F' H' ee c ea
        exact hX _ _ _ _ _ (exB_err ee hm) (Sx.wide (SP4.call0 c) (live1 (w0.call0 (SP4.call0 c)))) (w0.call0 (SP4.call0 c)) ea
      intro t3 er9 v5 F5 H5 c5 f5
      subst er9
      have hm := exB_ok hm
      obtain ⟨hg, hm⟩ := gd_some hm
      have S5 := S4.call0 c5
      have f_openers := (qL qPat).mono c5.le f_openers
      have f_closers := (qL qPat).mono c5.le f_closers
      have f_settings := qSd.mono c5.le f_settings
      have f4 := qSd.mono c5.le f4
      have w_self := w_self.call0 c5
      cases (show v5 = V.non from f5)
      refine rd_sfld ?_
      refine rd_splat S5 f_settings f4 (of_decide_eq_true hg) (by rw [List.length_zip]; omega) (fun p9 o9 Q9 h9 q9 => ?_) (fun p9 o9 Q9 h9 q9 => rd_v rfl q9) (fun u6 F6 H6 c6 f6 => ?_)
      · refine rd_fld ?_
        refine rd_v rfl ?_
        exact fd_at (w_self.temp h9).at_ T.c_Rule T.na_Rule_settings (by rfl) q9
      have S6 := S5.call0 c6
      have w_self := w_self.call0 c6
      have f_openers := (qL qPat).mono c6.le f_openers
      have f_closers := (qL qPat).mono c6.le f_closers
      have f_settings := qSd.mono c6.le f_settings
      refine rd_v rfl ?_
      refine fset (fs' := [("openers", u_openers), ("closers", u_closers), ("settings", u6)]) S6 w_self T.c_Rule T.na_Rule_settings (by rfl) (by rfl) (fun H7 c7 w7 => ?_)
      have S7 := S6.call1 c7 w_self
      cases hm
      exact hQ _ rfl _ _ _ _ S7 w7 (qSd.mono c7.le f6) rfl
def sp_Rule_most (K : PySem.W.Frag) : Sp := fun vs H Q _ => ∃ (F : Hp) (v_self : V) (a_self : (List Pat × List Pat × List (Str × Th))) (r : Th), vs = [v_self] ∧ Same F H ∧ qRule.r K F v_self a_self ∧ m_Rule_most a_self = some r ∧ ∀ v F' H', Sx P0 F H F' H' → qTh.r K F' v r → Q v H'
theorem sc_Rule_most : FnScope ["self"] ["self"] (defScope s_Rule_most) := ⟨rfl, rfl, rfl, by decide +kernel, rfl, by decide +kernel, by decide +kernel⟩
theorem bn_Rule_most (T : Tx P K mg) : Binds K (fdG K "Rule" "most") ["self"] [] := FunD.bindsN T.pr_Rule_most.F fun _ _ _ _ _ _ us hl => match us, hl with | [_], _ => rfl
theorem ok_Rule_most (T : Tx P K mg) : FnOk P w K mg base CX0 1 (geA K "Rule" "most") (fdG K "Rule" "most") ["self"] (sp_Rule_most K) := by
  refine FunD.ok T.pr_Rule_most.F sc_Rule_most (fun vs H0 Q E h => ?_) (fun cdv A outer s H0 vs Q E hr h => ?_)
  · obtain ⟨_, _, _, _, rfl, _⟩ := h
    rfl
  · obtain ⟨F0, v_self, a_self, r, rfl, hE, f_self, hm, hQ⟩ := h
    refine ⟨_, PSs.nox ((pss_one (ps_ret (pe_dgetO hr.units (pe_fldK (pv 0) rfl) pe_str (fun _ _ => rfl))))), ?_⟩
    have S : Sx P0 F0 H0 F0 H0 := Sx.refl0 hE
    unfold m_Rule_most at hm
    refine rd_ret ?_
    refine rd_op ?_
    refine rd_fld ?_
    refine rd_v rfl ?_
    refine fld_Rule_settings T S f_self (fun u1 f2 => ?_)
    obtain ⟨t3, e4, hm⟩ := bd_some hm
    refine rd_c ?_
    refine rd_dgSd S f2 e4 (fun u5 f6 => ?_)
    cases hm
    exact hQ _ _ _ S f6
def sp_Rule_most_vo (K : PySem.W.Frag) : Sp := fun vs H Q _ => ∃ (F : Hp) (p_self : Addr) (dx : Addr) (u_openers : V) (u_closers : V) (u_settings : V) (a_self : ((List Pat) × (List Pat) × (List (Str × Th)))) (r : Th), vs = [.ref p_self] ∧ Same F H ∧ Ow (fun a => a = p_self) H F H p_self (.ins (He.ga K "Rule") dx [("openers", u_openers), ("closers", u_closers), ("settings", u_settings)]) ∧ (qL qPat).r K F u_openers a_self.1 ∧ (qL qPat).r K F u_closers a_self.2.1 ∧ qSd.r K F u_settings a_self.2.2 ∧ m_Rule_most_vo a_self = some r ∧ ∀ v F' H', Sx P0 F H F' H' → qTh.r K F' v r → Q v H'
theorem sc_Rule_most_vo : FnScope ["self"] ["self"] (defScope s_Rule_most) := ⟨rfl, rfl, rfl, by decide +kernel, rfl, by decide +kernel, by decide +kernel⟩
theorem bn_Rule_most_vo (T : Tx P K mg) : Binds K (fdG K "Rule" "most") ["self"] [] := FunD.bindsN T.pr_Rule_most.F fun _ _ _ _ _ _ us hl => match us, hl with | [_], _ => rfl
theorem ok_Rule_most_vo (T : Tx P K mg) : FnOk P w K mg base CX0 1 (geA K "Rule" "most") (fdG K "Rule" "most") ["self"] (sp_Rule_most_vo K) := by
  refine FunD.ok T.pr_Rule_most.F sc_Rule_most_vo (fun vs H0 Q E h => ?_) (fun cdv A outer s H0 vs Q E hr h => ?_)
  · obtain ⟨_, _, _, _, _, _, _, _, rfl, _⟩ := h
    rfl
  · obtain ⟨F0, p_self, dx, u_openers, u_closers, u_settings, a_self, r, rfl, hE, w_self, f_openers, f_closers, f_settings, hm, hQ⟩ := h
    refine ⟨_, PSs.nox ((pss_one (ps_ret (pe_dgetO hr.units (pe_fldK (pv 0) rfl) pe_str (fun _ _ => rfl))))), ?_⟩
    have S : Sx P0 F0 H0 F0 H0 := Sx.refl0 hE
    unfold m_Rule_most_vo at hm
    obtain ⟨t1, e2, hm⟩ := bd_some hm
    refine rd_ret ?_
    refine rd_op ?_
    refine rd_fld ?_
    refine rd_v rfl ?_
    refine fd_at w_self.at_ T.c_Rule T.na_Rule_settings (by rfl) ?_
    refine rd_c ?_
    refine rd_dgSd S f_settings e2 (fun u3 f4 => ?_)
    cases hm
    exact hQ _ _ _ S f4
def sp_Rule_most_vs (K : PySem.W.Frag) : Sp := fun vs H Q E => ∃ (F : Hp) (p_self : Addr) (dx : Addr) (u_openers : V) (u_closers : V) (u_settings : V) (a_self : ((List Pat) × (List Pat) × (List (Str × Th)))) (v_value : V) (a_value : Th) (rr : (Except Str (Unit × (List (Str × Th))))), vs = [.ref p_self, v_value] ∧ Same F H ∧ Ow (fun a => a = p_self) H F H p_self (.ins (He.ga K "Rule") dx [("openers", u_openers), ("closers", u_closers), ("settings", u_settings)]) ∧ (qL qPat).r K F u_openers a_self.1 ∧ (qL qPat).r K F u_closers a_self.2.1 ∧ qSd.r K F u_settings a_self.2.2 ∧ qTh.r K F v_value a_value ∧ m_Rule_most_vs a_self a_value = some rr ∧ (∀ r, rr = .ok r → ∀ (v : V) (F' H' : Hp) (u'_settings : V), Sx (fun a => a = p_self) F H F' H' → Ow (fun a => a = p_self) H F' H' p_self (.ins (He.ga K "Rule") dx [("openers", u_openers), ("closers", u_closers), ("settings", u'_settings)]) → qSd.r K F' u'_settings r.2 → qN.r K F' v r.1 → Q v H') ∧ (∀ e cls d F' H', rr = .error e → Sx (fun a => a = p_self) F H F' H' → Ow (fun a => a = p_self) H F' H' p_self (.ins (He.ga K "Rule") dx [("openers", u_openers), ("closers", u_closers), ("settings", u_settings)]) → ErrAt K H' "NoRule" ["field"] [.str e] cls d → E cls d H')
theorem sc_Rule_most_vs : FnScope ["self", "value"] ["self", "value"] (defScope s_Rule_most_vset) := ⟨rfl, rfl, rfl, by decide +kernel, rfl, by decide +kernel, by decide +kernel⟩
theorem bn_Rule_most_vs (T : Tx P K mg) : Binds K (fdS K "Rule" "most") ["self", "value"] [] := FunD.bindsN T.ps_Rule_most_vset.F fun _ _ _ _ _ _ us hl => match us, hl with | [_, _], _ => rfl
theorem ok_Rule_most_vs (T : Tx P K mg) : FnOk P w K mg base (L2.CX P w) 5 (seA K "Rule" "most") (fdS K "Rule" "most") ["self", "value"] (sp_Rule_most_vs K) := by
  refine FunD.ok T.ps_Rule_most_vset.F sc_Rule_most_vs (fun vs H0 Q E h => ?_) (fun cdv A outer s H0 vs Q E hr h => ?_)
  · obtain ⟨_, _, _, _, _, _, _, _, _, _, rfl, _⟩ := h
    rfl
  · obtain ⟨F0, p_self, dx, u_openers, u_closers, u_settings, a_self, v_value, a_value, rr, rfl, hE, w_self, f_openers, f_closers, f_settings, f_value, hm, hQ, hX⟩ := h
    refine ⟨_, pss_one (ps_expr (pe_methN (pv 0) T.c_Rule T.me_Rule_change (ok_Rule_change_vx T (ks := ["most"]) (by decide) (by decide) (fun kV doc pm an cdv ct u xs hl => match xs, hl with | [_], _ => by unfold BindN; rfl)) (hr.mono (by decide)) passes_cx (pk_cons (pv 1) pk_nil))), ?_⟩
    refine rd_drop ?_
    refine rd_methN ?_
    refine rd_v rfl ?_
    refine mt_at w_self.at_ (by rfl) ?_
    refine rd_cons ?_
    refine rd_v rfl ?_
    refine rd_nil ?_
    refine ⟨rfl, F0, p_self, dx, u_openers, u_closers, u_settings, a_self, _, [a_value], rr, rfl, hE, w_self, f_openers, f_closers, f_settings, rfl, .cons f_value .nil, hm, fun r er v F1 H1 usettings c w1 fsettings fv => ?_, hX⟩
    cases (show v = V.non from fv)
    exact hQ r er _ _ _ usettings c w1 fsettings rfl
def sp_Rule_alone (K : PySem.W.Frag) : Sp := fun vs H Q _ => ∃ (F : Hp) (v_self : V) (a_self : (List Pat × List Pat × List (Str × Th))) (r : Th), vs = [v_self] ∧ Same F H ∧ qRule.r K F v_self a_self ∧ m_Rule_alone a_self = some r ∧ ∀ v F' H', Sx P0 F H F' H' → qTh.r K F' v r → Q v H'
theorem sc_Rule_alone : FnScope ["self"] ["self"] (defScope s_Rule_alone) := ⟨rfl, rfl, rfl, by decide +kernel, rfl, by decide +kernel, by decide +kernel⟩
theorem bn_Rule_alone (T : Tx P K mg) : Binds K (fdG K "Rule" "alone") ["self"] [] := FunD.bindsN T.pr_Rule_alone.F fun _ _ _ _ _ _ us hl => match us, hl with | [_], _ => rfl
theorem ok_Rule_alone (T : Tx P K mg) : FnOk P w K mg base CX0 1 (geA K "Rule" "alone") (fdG K "Rule" "alone") ["self"] (sp_Rule_alone K) := by
  refine FunD.ok T.pr_Rule_alone.F sc_Rule_alone (fun vs H0 Q E h => ?_) (fun cdv A outer s H0 vs Q E hr h => ?_)
  · obtain ⟨_, _, _, _, rfl, _⟩ := h
    rfl
  · obtain ⟨F0, v_self, a_self, r, rfl, hE, f_self, hm, hQ⟩ := h
    refine ⟨_, PSs.nox ((pss_one (ps_ret (pe_dgetO hr.units (pe_fldK (pv 0) rfl) pe_str (fun _ _ => rfl))))), ?_⟩
    have S : Sx P0 F0 H0 F0 H0 := Sx.refl0 hE
    unfold m_Rule_alone at hm
    refine rd_ret ?_
    refine rd_op ?_
    refine rd_fld ?_
    refine rd_v rfl ?_
    refine fld_Rule_settings T S f_self (fun u1 f2 => ?_)
    obtain ⟨t3, e4, hm⟩ := bd_some hm
    refine rd_c ?_
    refine rd_dgSd S f2 e4 (fun u5 f6 => ?_)
    cases hm
    exact hQ _ _ _ S f6
def sp_Rule_alone_vo (K : PySem.W.Frag) : Sp := fun vs H Q _ => ∃ (F : Hp) (p_self : Addr) (dx : Addr) (u_openers : V) (u_closers : V) (u_settings : V) (a_self : ((List Pat) × (List Pat) × (List (Str × Th)))) (r : Th), vs = [.ref p_self] ∧ Same F H ∧ Ow (fun a => a = p_self) H F H p_self (.ins (He.ga K "Rule") dx [("openers", u_openers), ("closers", u_closers), ("settings", u_settings)]) ∧ (qL qPat).r K F u_openers a_self.1 ∧ (qL qPat).r K F u_closers a_self.2.1 ∧ qSd.r K F u_settings a_self.2.2 ∧ m_Rule_alone_vo a_self = some r ∧ ∀ v F' H', Sx P0 F H F' H' → qTh.r K F' v r → Q v H'
theorem sc_Rule_alone_vo : FnScope ["self"] ["self"] (defScope s_Rule_alone) := ⟨rfl, rfl, rfl, by decide +kernel, rfl, by decide +kernel, by decide +kernel⟩
theorem bn_Rule_alone_vo (T : Tx P K mg) : Binds K (fdG K "Rule" "alone") ["self"] [] := FunD.bindsN T.pr_Rule_alone.F fun _ _ _ _ _ _ us hl => match us, hl with | [_], _ => rfl
theorem ok_Rule_alone_vo (T : Tx P K mg) : FnOk P w K mg base CX0 1 (geA K "Rule" "alone") (fdG K "Rule" "alone") ["self"] (sp_Rule_alone_vo K) := by
  refine FunD.ok T.pr_Rule_alone.F sc_Rule_alone_vo (fun vs H0 Q E h => ?_) (fun cdv A outer s H0 vs Q E hr h => ?_)
  · obtain ⟨_, _, _, _, _, _, _, _, rfl, _⟩ := h
    rfl
  · obtain ⟨F0, p_self, dx, u_openers, u_closers, u_settings, a_self, r, rfl, hE, w_self, f_openers, f_closers, f_settings, hm, hQ⟩ := h
    refine ⟨_, PSs.nox ((pss_one (ps_ret (pe_dgetO hr.units (pe_fldK (pv 0) rfl) pe_str (fun _ _ => rfl))))), ?_⟩
    have S : Sx P0 F0 H0 F0 H0 := Sx.refl0 hE
    unfold m_Rule_alone_vo at hm
    obtain ⟨t1, e2, hm⟩ := bd_some hm
    refine rd_ret ?_
    refine rd_op ?_
    refine rd_fld ?_
    refine rd_v rfl ?_
    refine fd_at w_self.at_ T.c_Rule T.na_Rule_settings (by rfl) ?_
    refine rd_c ?_
    refine rd_dgSd S f_settings e2 (fun u3 f4 => ?_)
    cases hm
    exact hQ _ _ _ S f4
def sp_Rule_alone_vs (K : PySem.W.Frag) : Sp := fun vs H Q E => ∃ (F : Hp) (p_self : Addr) (dx : Addr) (u_openers : V) (u_closers : V) (u_settings : V) (a_self : ((List Pat) × (List Pat) × (List (Str × Th)))) (v_value : V) (a_value : Th) (rr : (Except Str (Unit × (List (Str × Th))))), vs = [.ref p_self, v_value] ∧ Same F H ∧ Ow (fun a => a = p_self) H F H p_self (.ins (He.ga K "Rule") dx [("openers", u_openers), ("closers", u_closers), ("settings", u_settings)]) ∧ (qL qPat).r K F u_openers a_self.1 ∧ (qL qPat).r K F u_closers a_self.2.1 ∧ qSd.r K F u_settings a_self.2.2 ∧ qTh.r K F v_value a_value ∧ m_Rule_alone_vs a_self a_value = some rr ∧ (∀ r, rr = .ok r → ∀ (v : V) (F' H' : Hp) (u'_settings : V), Sx (fun a => a = p_self) F H F' H' → Ow (fun a => a = p_self) H F' H' p_self (.ins (He.ga K "Rule") dx [("openers", u_openers), ("closers", u_closers), ("settings", u'_settings)]) → qSd.r K F' u'_settings r.2 → qN.r K F' v r.1 → Q v H') ∧ (∀ e cls d F' H', rr = .error e → Sx (fun a => a = p_self) F H F' H' → Ow (fun a => a = p_self) H F' H' p_self (.ins (He.ga K "Rule") dx [("openers", u_openers), ("closers", u_closers), ("settings", u_settings)]) → ErrAt K H' "NoRule" ["field"] [.str e] cls d → E cls d H')
theorem sc_Rule_alone_vs : FnScope ["self", "value"] ["self", "value"] (defScope s_Rule_alone_vset) := ⟨rfl, rfl, rfl, by decide +kernel, rfl, by decide +kernel, by decide +kernel⟩
theorem bn_Rule_alone_vs (T : Tx P K mg) : Binds K (fdS K "Rule" "alone") ["self", "value"] [] := FunD.bindsN T.ps_Rule_alone_vset.F fun _ _ _ _ _ _ us hl => match us, hl with | [_, _], _ => rfl
theorem ok_Rule_alone_vs (T : Tx P K mg) : FnOk P w K mg base (L2.CX P w) 5 (seA K "Rule" "alone") (fdS K "Rule" "alone") ["self", "value"] (sp_Rule_alone_vs K) := by
  refine FunD.ok T.ps_Rule_alone_vset.F sc_Rule_alone_vs (fun vs H0 Q E h => ?_) (fun cdv A outer s H0 vs Q E hr h => ?_)
  · obtain ⟨_, _, _, _, _, _, _, _, _, _, rfl, _⟩ := h
    rfl
  · obtain ⟨F0, p_self, dx, u_openers, u_closers, u_settings, a_self, v_value, a_value, rr, rfl, hE, w_self, f_openers, f_closers, f_settings, f_value, hm, hQ, hX⟩ := h
    refine ⟨_, pss_one (ps_expr (pe_methN (pv 0) T.c_Rule T.me_Rule_change (ok_Rule_change_vx T (ks := ["alone"]) (by decide) (by decide) (fun kV doc pm an cdv ct u xs hl => match xs, hl with | [_], _ => by unfold BindN; rfl)) (hr.mono (by decide)) passes_cx (pk_cons (pv 1) pk_nil))), ?_⟩
    refine rd_drop ?_
    refine rd_methN ?_
    refine rd_v rfl ?_
    refine mt_at w_self.at_ (by rfl) ?_
    refine rd_cons ?_
    refine rd_v rfl ?_
    refine rd_nil ?_
    refine ⟨rfl, F0, p_self, dx, u_openers, u_closers, u_settings, a_self, _, [a_value], rr, rfl, hE, w_self, f_openers, f_closers, f_settings, rfl, .cons f_value .nil, hm, fun r er v F1 H1 usettings c w1 fsettings fv => ?_, hX⟩
    cases (show v = V.non from fv)
    exact hQ r er _ _ _ usettings c w1 fsettings rfl
def sp_Rule_tags (K : PySem.W.Frag) : Sp := fun vs H Q _ => ∃ (F : Hp) (v_self : V) (a_self : (List Pat × List Pat × List (Str × Th))) (r : Th), vs = [v_self] ∧ Same F H ∧ qRule.r K F v_self a_self ∧ m_Rule_tags a_self = some r ∧ ∀ v F' H', Sx P0 F H F' H' → qTh.r K F' v r → Q v H'
theorem sc_Rule_tags : FnScope ["self"] ["self"] (defScope s_Rule_tags) := ⟨rfl, rfl, rfl, by decide +kernel, rfl, by decide +kernel, by decide +kernel⟩
theorem bn_Rule_tags (T : Tx P K mg) : Binds K (fdG K "Rule" "tags") ["self"] [] := FunD.bindsN T.pr_Rule_tags.F fun _ _ _ _ _ _ us hl => match us, hl with | [_], _ => rfl
theorem ok_Rule_tags (T : Tx P K mg) : FnOk P w K mg base CX0 1 (geA K "Rule" "tags") (fdG K "Rule" "tags") ["self"] (sp_Rule_tags K) := by
  refine FunD.ok T.pr_Rule_tags.F sc_Rule_tags (fun vs H0 Q E h => ?_) (fun cdv A outer s H0 vs Q E hr h => ?_)
  · obtain ⟨_, _, _, _, rfl, _⟩ := h
    rfl
  · obtain ⟨F0, v_self, a_self, r, rfl, hE, f_self, hm, hQ⟩ := h
    refine ⟨_, PSs.nox ((pss_one (ps_ret (pe_dgetO hr.units (pe_fldK (pv 0) rfl) pe_str (fun _ _ => rfl))))), ?_⟩
    have S : Sx P0 F0 H0 F0 H0 := Sx.refl0 hE
    unfold m_Rule_tags at hm
    refine rd_ret ?_
    refine rd_op ?_
    refine rd_fld ?_
    refine rd_v rfl ?_
    refine fld_Rule_settings T S f_self (fun u1 f2 => ?_)
    obtain ⟨t3, e4, hm⟩ := bd_some hm
    refine rd_c ?_
    refine rd_dgSd S f2 e4 (fun u5 f6 => ?_)
    cases hm
    exact hQ _ _ _ S f6
def sp_Rule_tags_vo (K : PySem.W.Frag) : Sp := fun vs H Q _ => ∃ (F : Hp) (p_self : Addr) (dx : Addr) (u_openers : V) (u_closers : V) (u_settings : V) (a_self : ((List Pat) × (List Pat) × (List (Str × Th)))) (r : Th), vs = [.ref p_self] ∧ Same F H ∧ Ow (fun a => a = p_self) H F H p_self (.ins (He.ga K "Rule") dx [("openers", u_openers), ("closers", u_closers), ("settings", u_settings)]) ∧ (qL qPat).r K F u_openers a_self.1 ∧ (qL qPat).r K F u_closers a_self.2.1 ∧ qSd.r K F u_settings a_self.2.2 ∧ m_Rule_tags_vo a_self = some r ∧ ∀ v F' H', Sx P0 F H F' H' → qTh.r K F' v r → Q v H'
theorem sc_Rule_tags_vo : FnScope ["self"] ["self"] (defScope s_Rule_tags) := ⟨rfl, rfl, rfl, by decide +kernel, rfl, by decide +kernel, by decide +kernel⟩
theorem bn_Rule_tags_vo (T : Tx P K mg) : Binds K (fdG K "Rule" "tags") ["self"] [] := FunD.bindsN T.pr_Rule_tags.F fun _ _ _ _ _ _ us hl => match us, hl with | [_], _ => rfl
theorem ok_Rule_tags_vo (T : Tx P K mg) : FnOk P w K mg base CX0 1 (geA K "Rule" "tags") (fdG K "Rule" "tags") ["self"] (sp_Rule_tags_vo K) := by
  refine FunD.ok T.pr_Rule_tags.F sc_Rule_tags_vo (fun vs H0 Q E h => ?_) (fun cdv A outer s H0 vs Q E hr h => ?_)
  · obtain ⟨_, _, _, _, _, _, _, _, rfl, _⟩ := h
    rfl
  · obtain ⟨F0, p_self, dx, u_openers, u_closers, u_settings, a_self, r, rfl, hE, w_self, f_openers, f_closers, f_settings, hm, hQ⟩ := h
    refine ⟨_, PSs.nox ((pss_one (ps_ret (pe_dgetO hr.units (pe_fldK (pv 0) rfl) pe_str (fun _ _ => rfl))))), ?_⟩
    have S : Sx P0 F0 H0 F0 H0 := Sx.refl0 hE
    unfold m_Rule_tags_vo at hm
    obtain ⟨t1, e2, hm⟩ := bd_some hm
    refine rd_ret ?_
    refine rd_op ?_
    refine rd_fld ?_
    refine rd_v rfl ?_
    refine fd_at w_self.at_ T.c_Rule T.na_Rule_settings (by rfl) ?_
    refine rd_c ?_
    refine rd_dgSd S f_settings e2 (fun u3 f4 => ?_)
    cases hm
    exact hQ _ _ _ S f4
def sp_Rule_tags_vs (K : PySem.W.Frag) : Sp := fun vs H Q E => ∃ (F : Hp) (p_self : Addr) (dx : Addr) (u_openers : V) (u_closers : V) (u_settings : V) (a_self : ((List Pat) × (List Pat) × (List (Str × Th)))) (v_value : V) (a_value : Th) (rr : (Except Str (Unit × (List (Str × Th))))), vs = [.ref p_self, v_value] ∧ Same F H ∧ Ow (fun a => a = p_self) H F H p_self (.ins (He.ga K "Rule") dx [("openers", u_openers), ("closers", u_closers), ("settings", u_settings)]) ∧ (qL qPat).r K F u_openers a_self.1 ∧ (qL qPat).r K F u_closers a_self.2.1 ∧ qSd.r K F u_settings a_self.2.2 ∧ qTh.r K F v_value a_value ∧ m_Rule_tags_vs a_self a_value = some rr ∧ (∀ r, rr = .ok r → ∀ (v : V) (F' H' : Hp) (u'_settings : V), Sx (fun a => a = p_self) F H F' H' → Ow (fun a => a = p_self) H F' H' p_self (.ins (He.ga K "Rule") dx [("openers", u_openers), ("closers", u_closers), ("settings", u'_settings)]) → qSd.r K F' u'_settings r.2 → qN.r K F' v r.1 → Q v H') ∧ (∀ e cls d F' H', rr = .error e → Sx (fun a => a = p_self) F H F' H' → Ow (fun a => a = p_self) H F' H' p_self (.ins (He.ga K "Rule") dx [("openers", u_openers), ("closers", u_closers), ("settings", u_settings)]) → ErrAt K H' "NoRule" ["field"] [.str e] cls d → E cls d H')
theorem sc_Rule_tags_vs : FnScope ["self", "value"] ["self", "value"] (defScope s_Rule_tags_vset) := ⟨rfl, rfl, rfl, by decide +kernel, rfl, by decide +kernel, by decide +kernel⟩
theorem bn_Rule_tags_vs (T : Tx P K mg) : Binds K (fdS K "Rule" "tags") ["self", "value"] [] := FunD.bindsN T.ps_Rule_tags_vset.F fun _ _ _ _ _ _ us hl => match us, hl with | [_, _], _ => rfl
theorem ok_Rule_tags_vs (T : Tx P K mg) : FnOk P w K mg base (L2.CX P w) 5 (seA K "Rule" "tags") (fdS K "Rule" "tags") ["self", "value"] (sp_Rule_tags_vs K) := by
  refine FunD.ok T.ps_Rule_tags_vset.F sc_Rule_tags_vs (fun vs H0 Q E h => ?_) (fun cdv A outer s H0 vs Q E hr h => ?_)
  · obtain ⟨_, _, _, _, _, _, _, _, _, _, rfl, _⟩ := h
    rfl
  · obtain ⟨F0, p_self, dx, u_openers, u_closers, u_settings, a_self, v_value, a_value, rr, rfl, hE, w_self, f_openers, f_closers, f_settings, f_value, hm, hQ, hX⟩ := h
    refine ⟨_, pss_one (ps_expr (pe_methN (pv 0) T.c_Rule T.me_Rule_change (ok_Rule_change_vx T (ks := ["tags"]) (by decide) (by decide) (fun kV doc pm an cdv ct u xs hl => match xs, hl with | [_], _ => by unfold BindN; rfl)) (hr.mono (by decide)) passes_cx (pk_cons (pv 1) pk_nil))), ?_⟩
    refine rd_drop ?_
    refine rd_methN ?_
    refine rd_v rfl ?_
    refine mt_at w_self.at_ (by rfl) ?_
    refine rd_cons ?_
    refine rd_v rfl ?_
    refine rd_nil ?_
    refine ⟨rfl, F0, p_self, dx, u_openers, u_closers, u_settings, a_self, _, [a_value], rr, rfl, hE, w_self, f_openers, f_closers, f_settings, rfl, .cons f_value .nil, hm, fun r er v F1 H1 usettings c w1 fsettings fv => ?_, hX⟩
    cases (show v = V.non from fv)
    exact hQ r er _ _ _ usettings c w1 fsettings rfl
def sp_Rule_quiet (K : PySem.W.Frag) : Sp := fun vs H Q _ => ∃ (F : Hp) (v_self : V) (a_self : (List Pat × List Pat × List (Str × Th))) (r : Th), vs = [v_self] ∧ Same F H ∧ qRule.r K F v_self a_self ∧ m_Rule_quiet a_self = some r ∧ ∀ v F' H', Sx P0 F H F' H' → qTh.r K F' v r → Q v H'
theorem sc_Rule_quiet : FnScope ["self"] ["self"] (defScope s_Rule_quiet) := ⟨rfl, rfl, rfl, by decide +kernel, rfl, by decide +kernel, by decide +kernel⟩
theorem bn_Rule_quiet (T : Tx P K mg) : Binds K (fdG K "Rule" "quiet") ["self"] [] := FunD.bindsN T.pr_Rule_quiet.F fun _ _ _ _ _ _ us hl => match us, hl with | [_], _ => rfl
theorem ok_Rule_quiet (T : Tx P K mg) : FnOk P w K mg base CX0 1 (geA K "Rule" "quiet") (fdG K "Rule" "quiet") ["self"] (sp_Rule_quiet K) := by
  refine FunD.ok T.pr_Rule_quiet.F sc_Rule_quiet (fun vs H0 Q E h => ?_) (fun cdv A outer s H0 vs Q E hr h => ?_)
  · obtain ⟨_, _, _, _, rfl, _⟩ := h
    rfl
  · obtain ⟨F0, v_self, a_self, r, rfl, hE, f_self, hm, hQ⟩ := h
    refine ⟨_, PSs.nox ((pss_one (ps_ret (pe_dgetO hr.units (pe_fldK (pv 0) rfl) pe_str (fun _ _ => rfl))))), ?_⟩
    have S : Sx P0 F0 H0 F0 H0 := Sx.refl0 hE
    unfold m_Rule_quiet at hm
    refine rd_ret ?_
    refine rd_op ?_
    refine rd_fld ?_
    refine rd_v rfl ?_
    refine fld_Rule_settings T S f_self (fun u1 f2 => ?_)
    obtain ⟨t3, e4, hm⟩ := bd_some hm
    refine rd_c ?_
    refine rd_dgSd S f2 e4 (fun u5 f6 => ?_)
    cases hm
    exact hQ _ _ _ S f6
def sp_Rule_quiet_vo (K : PySem.W.Frag) : Sp := fun vs H Q _ => ∃ (F : Hp) (p_self : Addr) (dx : Addr) (u_openers : V) (u_closers : V) (u_settings : V) (a_self : ((List Pat) × (List Pat) × (List (Str × Th)))) (r : Th), vs = [.ref p_self] ∧ Same F H ∧ Ow (fun a => a = p_self) H F H p_self (.ins (He.ga K "Rule") dx [("openers", u_openers), ("closers", u_closers), ("settings", u_settings)]) ∧ (qL qPat).r K F u_openers a_self.1 ∧ (qL qPat).r K F u_closers a_self.2.1 ∧ qSd.r K F u_settings a_self.2.2 ∧ m_Rule_quiet_vo a_self = some r ∧ ∀ v F' H', Sx P0 F H F' H' → qTh.r K F' v r → Q v H'
theorem sc_Rule_quiet_vo : FnScope ["self"] ["self"] (defScope s_Rule_quiet) := ⟨rfl, rfl, rfl, by decide +kernel, rfl, by decide +kernel, by decide +kernel⟩
theorem bn_Rule_quiet_vo (T : Tx P K mg) : Binds K (fdG K "Rule" "quiet") ["self"] [] := FunD.bindsN T.pr_Rule_quiet.F fun _ _ _ _ _ _ us hl => match us, hl with | [_], _ => rfl
theorem ok_Rule_quiet_vo (T : Tx P K mg) : FnOk P w K mg base CX0 1 (geA K "Rule" "quiet") (fdG K "Rule" "quiet") ["self"] (sp_Rule_quiet_vo K) := by
  refine FunD.ok T.pr_Rule_quiet.F sc_Rule_quiet_vo (fun vs H0 Q E h => ?_) (fun cdv A outer s H0 vs Q E hr h => ?_)
  · obtain ⟨_, _, _, _, _, _, _, _, rfl, _⟩ := h
    rfl
  · obtain ⟨F0, p_self, dx, u_openers, u_closers, u_settings, a_self, r, rfl, hE, w_self, f_openers, f_closers, f_settings, hm, hQ⟩ := h
    refine ⟨_, PSs.nox ((pss_one (ps_ret (pe_dgetO hr.units (pe_fldK (pv 0) rfl) pe_str (fun _ _ => rfl))))), ?_⟩
    have S : Sx P0 F0 H0 F0 H0 := Sx.refl0 hE
    unfold m_Rule_quiet_vo at hm
    obtain ⟨t1, e2, hm⟩ := bd_some hm
    refine rd_ret ?_
    refine rd_op ?_
    refine rd_fld ?_
    refine rd_v rfl ?_
    refine fd_at w_self.at_ T.c_Rule T.na_Rule_settings (by rfl) ?_
    refine rd_c ?_
    refine rd_dgSd S f_settings e2 (fun u3 f4 => ?_)
    cases hm
    exact hQ _ _ _ S f4
def sp_Rule_quiet_vs (K : PySem.W.Frag) : Sp := fun vs H Q E => ∃ (F : Hp) (p_self : Addr) (dx : Addr) (u_openers : V) (u_closers : V) (u_settings : V) (a_self : ((List Pat) × (List Pat) × (List (Str × Th)))) (v_value : V) (a_value : Th) (rr : (Except Str (Unit × (List (Str × Th))))), vs = [.ref p_self, v_value] ∧ Same F H ∧ Ow (fun a => a = p_self) H F H p_self (.ins (He.ga K "Rule") dx [("openers", u_openers), ("closers", u_closers), ("settings", u_settings)]) ∧ (qL qPat).r K F u_openers a_self.1 ∧ (qL qPat).r K F u_closers a_self.2.1 ∧ qSd.r K F u_settings a_self.2.2 ∧ qTh.r K F v_value a_value ∧ m_Rule_quiet_vs a_self a_value = some rr ∧ (∀ r, rr = .ok r → ∀ (v : V) (F' H' : Hp) (u'_settings : V), Sx (fun a => a = p_self) F H F' H' → Ow (fun a => a = p_self) H F' H' p_self (.ins (He.ga K "Rule") dx [("openers", u_openers), ("closers", u_closers), ("settings", u'_settings)]) → qSd.r K F' u'_settings r.2 → qN.r K F' v r.1 → Q v H') ∧ (∀ e cls d F' H', rr = .error e → Sx (fun a => a = p_self) F H F' H' → Ow (fun a => a = p_self) H F' H' p_self (.ins (He.ga K "Rule") dx [("openers", u_openers), ("closers", u_closers), ("settings", u_settings)]) → ErrAt K H' "NoRule" ["field"] [.str e] cls d → E cls d H')
theorem sc_Rule_quiet_vs : FnScope ["self", "value"] ["self", "value"] (defScope s_Rule_quiet_vset) := ⟨rfl, rfl, rfl, by decide +kernel, rfl, by decide +kernel, by decide +kernel⟩
theorem bn_Rule_quiet_vs (T : Tx P K mg) : Binds K (fdS K "Rule" "quiet") ["self", "value"] [] := FunD.bindsN T.ps_Rule_quiet_vset.F fun _ _ _ _ _ _ us hl => match us, hl with | [_, _], _ => rfl
theorem ok_Rule_quiet_vs (T : Tx P K mg) : FnOk P w K mg base (L2.CX P w) 5 (seA K "Rule" "quiet") (fdS K "Rule" "quiet") ["self", "value"] (sp_Rule_quiet_vs K) := by
  refine FunD.ok T.ps_Rule_quiet_vset.F sc_Rule_quiet_vs (fun vs H0 Q E h => ?_) (fun cdv A outer s H0 vs Q E hr h => ?_)
  · obtain ⟨_, _, _, _, _, _, _, _, _, _, rfl, _⟩ := h
    rfl
  · obtain ⟨F0, p_self, dx, u_openers, u_closers, u_settings, a_self, v_value, a_value, rr, rfl, hE, w_self, f_openers, f_closers, f_settings, f_value, hm, hQ, hX⟩ := h
    refine ⟨_, pss_one (ps_expr (pe_methN (pv 0) T.c_Rule T.me_Rule_change (ok_Rule_change_vx T (ks := ["quiet"]) (by decide) (by decide) (fun kV doc pm an cdv ct u xs hl => match xs, hl with | [_], _ => by unfold BindN; rfl)) (hr.mono (by decide)) passes_cx (pk_cons (pv 1) pk_nil))), ?_⟩
    refine rd_drop ?_
    refine rd_methN ?_
    refine rd_v rfl ?_
    refine mt_at w_self.at_ (by rfl) ?_
    refine rd_cons ?_
    refine rd_v rfl ?_
    refine rd_nil ?_
    refine ⟨rfl, F0, p_self, dx, u_openers, u_closers, u_settings, a_self, _, [a_value], rr, rfl, hE, w_self, f_openers, f_closers, f_settings, rfl, .cons f_value .nil, hm, fun r er v F1 H1 usettings c w1 fsettings fv => ?_, hX⟩
    cases (show v = V.non from fv)
    exact hQ r er _ _ _ usettings c w1 fsettings rfl
def sp_law_same (K : PySem.W.Frag) : Sp := fun vs H Q _ => ∃ (F : Hp) (v__law_one : V) (a__law_one : Th) (v__law_other : V) (a__law_other : Th) (r : Bool), vs = [v__law_one, v__law_other] ∧ Same F H ∧ qTh.r K F v__law_one a__law_one ∧ qTh.r K F v__law_other a__law_other ∧ m_law_same a__law_one a__law_other = some r ∧ ∀ v F' H', Sx P0 F H F' H' → qB.r K F' v r → Q v H'
theorem sc_law_same : FnScope ["_law_one", "_law_other"] ["_law_one", "_law_other"] (defScope s_law_same) := ⟨rfl, rfl, rfl, by decide +kernel, rfl, by decide +kernel, by decide +kernel⟩
theorem bn_law_same (T : Tx P K mg) : Binds K (fdOf K ("_law_same", none)) ["_law_one", "_law_other"] [] := FunD.bindsN T.F_law_same fun _ _ _ _ _ _ us hl => match us, hl with | [_, _], _ => rfl
theorem ok_law_same (T : Tx P K mg) : FnOk P w K mg base CX0 1 (He.ga K "_law_same") (fdOf K ("_law_same", none)) ["_law_one", "_law_other"] (sp_law_same K) := by
  refine FunD.ok T.F_law_same sc_law_same (fun vs H0 Q E h => ?_) (fun cdv A outer s H0 vs Q E hr h => ?_)
  · obtain ⟨_, _, _, _, _, _, rfl, _⟩ := h
    rfl
  · obtain ⟨F0, v__law_one, a__law_one, v__law_other, a__law_other, r, rfl, hE, f__law_one, f__law_other, hm, hQ⟩ := h
    refine ⟨_, PSs.nox ((pss_one (ps_ret (pe_and (pe_cmpR op_eqB (pe_callB (r := rIsi K) call_isi (by rfl) T.n_isinstance (by decide +kernel) (pa_cons (pv 0) (pa_cons (pe_bltn (v := V.ty "bool") (by rfl) T.n_bool (by decide +kernel) rfl) pa_nil))) (pe_callB (r := rIsi K) call_isi (by rfl) T.n_isinstance (by decide +kernel) (pa_cons (pv 1) (pa_cons (pe_bltn (v := V.ty "bool") (by rfl) T.n_bool (by decide +kernel) rfl) pa_nil))) (nomark _)) (pe_one (pe_cmpR (r := rEqD K) (op_eqD hr.units) (pv 0) (pv 1) (nomark _))))))), ?_⟩
    have S : Sx P0 F0 H0 F0 H0 := Sx.refl0 hE
    unfold m_law_same at hm
    obtain ⟨t3, e4, hm⟩ := bd_some hm
    refine rd_ret ?_
    refine rd_andV ?_
    refine rd_op ?_
    refine rd_cb ?_
    refine rd_cons ?_
    refine rd_v rfl ?_
    refine rd_cons ?_
    refine rd_c ?_
    refine rd_nil ?_
    refine rd_isiTh (n := "bool") (tx_th S f__law_one) (by decide +kernel) ?_
    refine rd_cb ?_
    refine rd_cons ?_
    refine rd_v rfl ?_
    refine rd_cons ?_
    refine rd_c ?_
    refine rd_nil ?_
    refine rd_isiTh (n := "bool") (tx_th S f__law_other) (by decide +kernel) ?_
    refine rd_B0 ?_
    refine rd_b ?_
    refine andV_j (fun c H' => c = V.bl t3 ∧ ∃ F', Sx P0 F0 H0 F' H') ?_ ?_ ?_
    · intro b5 Q6 q7
      have e4 := if_t e4 b5
      have S8 := Sx.refl0 S.sub
      obtain ⟨t9, e10, e4⟩ := bd_some e4
      cases e4
      refine rd_op ?_
      refine rd_v rfl ?_
      refine rd_v rfl ?_
      refine rd_eqTh S8 f__law_one f__law_other e10 ?_
      exact q7 _ _ ⟨rfl, F0, S8⟩
    · intro b5
      have e4 := if_f e4 b5
      cases e4
      have S11 := Sx.refl0 S.sub
      exact ⟨rfl, F0, S11⟩
    rintro b15 H13 ⟨rfl, F12, c14⟩
    have S16 := S.call0 c14
    have f__law_one := qTh.mono c14.le f__law_one
    have f__law_other := qTh.mono c14.le f__law_other
    cases hm
    exact hQ _ _ _ S16 rfl
def sp_law_tells (K : PySem.W.Frag) : Sp := fun vs H Q _ => ∃ (F : Hp) (p__law_rule : Addr) (dx : Addr) (u_openers : V) (u_closers : V) (u_settings : V) (a__law_rule : ((List Pat) × (List Pat) × (List (Str × Th)))) (v__law_values : V) (a__law_values : (List Th)) (v__law_begins : V) (a__law_begins : (List Str)) (v__law_ends : V) (a__law_ends : (List Str)) (r : Bool), vs = [.ref p__law_rule, v__law_values, v__law_begins, v__law_ends] ∧ Same F H ∧ Ow (fun a => a = p__law_rule) H F H p__law_rule (.ins (He.ga K "Rule") dx [("openers", u_openers), ("closers", u_closers), ("settings", u_settings)]) ∧ (qL qPat).r K F u_openers a__law_rule.1 ∧ (qL qPat).r K F u_closers a__law_rule.2.1 ∧ qSd.r K F u_settings a__law_rule.2.2 ∧ (qL qTh).r K F v__law_values a__law_values ∧ (qL qS).r K F v__law_begins a__law_begins ∧ (qL qS).r K F v__law_ends a__law_ends ∧ m_law_tells a__law_rule a__law_values a__law_begins a__law_ends = some r ∧ ∀ v F' H', Sx P0 F H F' H' → qB.r K F' v r → Q v H'
theorem sc_law_tells : FnScope ["_law_rule", "_law_values", "_law_begins", "_law_ends", "_law_actual", "_law_k", "_law_mark"] ["_law_rule", "_law_values", "_law_begins", "_law_ends"] (defScope s_law_tells) := ⟨rfl, rfl, rfl, by decide +kernel, rfl, by decide +kernel, by decide +kernel⟩
theorem bn_law_tells (T : Tx P K mg) : Binds K (fdOf K ("_law_tells", none)) ["_law_rule", "_law_values", "_law_begins", "_law_ends"] [] := FunD.bindsN T.F_law_tells fun _ _ _ _ _ _ us hl => match us, hl with | [_, _, _, _], _ => rfl
theorem ok_law_tells (T : Tx P K mg) : FnOk P w K mg base CX0 13 (He.ga K "_law_tells") (fdOf K ("_law_tells", none)) ["_law_rule", "_law_values", "_law_begins", "_law_ends"] (sp_law_tells K) := by
  refine FunD.ok T.F_law_tells sc_law_tells (fun vs H0 Q E h => ?_) (fun cdv A outer s H0 vs Q E hr h => ?_)
  · obtain ⟨_, _, _, _, _, _, _, _, _, _, _, _, _, _, rfl, _⟩ := h
    rfl
  · obtain ⟨F0, p__law_rule, dx, u_openers, u_closers, u_settings, a__law_rule, v__law_values, a__law_values, v__law_begins, a__law_begins, v__law_ends, a__law_ends, r, rfl, hE, w__law_rule, f_openers, f_closers, f_settings, f__law_values, f__law_begins, f__law_ends, hm, hQ⟩ := h
    refine ⟨_, PSs.nox ((pss_cons (ps_set (i := 4) sc_law_tells.nd rfl (dk rfl) (pe_lst (pa_cons (pe_prop (pv 0) T.c_Rule T.pr_Rule_most.p (ok_Rule_most_vo T) (hr.mono (by decide)) (bn_Rule_most_vo T) .nil pass0 rfl) (pa_cons (pe_prop (pv 0) T.c_Rule T.pr_Rule_alone.p (ok_Rule_alone_vo T) (hr.mono (by decide)) (bn_Rule_alone_vo T) .nil pass0 rfl) (pa_cons (pe_prop (pv 0) T.c_Rule T.pr_Rule_tags.p (ok_Rule_tags_vo T) (hr.mono (by decide)) (bn_Rule_tags_vo T) .nil pass0 rfl) (pa_cons (pe_prop (pv 0) T.c_Rule T.pr_Rule_quiet.p (ok_Rule_quiet_vo T) (hr.mono (by decide)) (bn_Rule_quiet_vo T) .nil pass0 rfl) pa_nil)))))) (pss_cons (ps_for PassesOwn.never rfl (pi_range1 (by rfl) T.n_range (pa_cons pe_int pa_nil)) (pg_name (i := 5) sc_law_tells.nd rfl (dk rfl)) (pss_one (ps_if (PW.pt (pw_or (pt_not (pt_val (pe_call (ok_law_same T) (hr.mono (by decide)) (by rfl) T.g_law_same T.F_law_same.kp (bn_law_same T) .nil pass0 (pa_cons (pe_ix (r := rIxL K) ix_list (pv 4) (pv 5) (fun _ _ => rfl)) (pa_cons (pe_ix (r := rIxL K) ix_list (pv 1) (pv 5) (fun _ _ => rfl)) pa_nil))))) (pw_or1 (pt_cmpR op_neB (pe_cmpR op_isN' (pe_ix (r := rIxL K) ix_list (pv 4) (pv 5) (fun _ _ => rfl)) pe_non (nomark _)) (pe_cmpR op_isN' (pe_ix (r := rIxL K) ix_list (pv 1) (pv 5) (fun _ _ => rfl)) pe_non (nomark _)) (nomark _))))) (pss_one (ps_ret pe_bl)) pss_nil))) (pss_cons (ps_if (pt_cmpR (r := rNeD K) (op_neD hr.units) (pe_lc (own := [("_law_mark", 6)]) (tt := tYes) rfl sc_law_tells.nd (pi_listK (pe_meth0 (pv 0) T.c_Rule T.me_Rule_begins (ok_Rule_begins_vo T) (hr.mono (by decide)) (bn_Rule_begins_vo T) .nil pass0)) (blkOk_by (N := ["_law_rule", "_law_values", "_law_begins", "_law_ends", "_law_actual", "_law_k", "_law_mark"]) (sc := defScope s_law_tells) (by decide +kernel)) (fun _ _ _ _ _ => pg_name (i := 6) sc_law_tells.nd rfl (Or.inl rfl)) (fun _ _ _ _ _ => pts_nil) (fun _ _ _ _ _ => (pe_callTy (r := rStrW P w K mg base 10) (cr_strW (hr.mono (by decide))) (by rfl) T.n_str (by decide +kernel) (pa_cons (pv 6) pa_nil)))) (pv 2) (nomark _)) (pss_one (ps_ret pe_bl)) pss_nil) (pss_one (ps_ret (pe_cmpR (r := rEqD K) (op_eqD hr.units) (pe_lc (own := [("_law_mark", 6)]) (tt := tYes) rfl sc_law_tells.nd (pi_listK (pe_meth0 (pv 0) T.c_Rule T.me_Rule_ends (ok_Rule_ends_vo T) (hr.mono (by decide)) (bn_Rule_ends_vo T) .nil pass0)) (blkOk_by (N := ["_law_rule", "_law_values", "_law_begins", "_law_ends", "_law_actual", "_law_k", "_law_mark"]) (sc := defScope s_law_tells) (by decide +kernel)) (fun _ _ _ _ _ => pg_name (i := 6) sc_law_tells.nd rfl (Or.inl rfl)) (fun _ _ _ _ _ => pts_nil) (fun _ _ _ _ _ => (pe_callTy (r := rStrW P w K mg base 10) (cr_strW (hr.mono (by decide))) (by rfl) T.n_str (by decide +kernel) (pa_cons (pv 6) pa_nil)))) (pv 3) (nomark _)))))))), ?_⟩
    have S : Sx P0 F0 H0 F0 H0 := Sx.refl0 hE
    unfold m_law_tells at hm
    refine rd_seq ?_
    refine rd_asg ?_
    refine rd_lst ?_
    refine rd_cons ?_
    refine rd_prop ?_
    refine rd_v rfl ?_
    refine pr_at w__law_rule.at_ ?_
    obtain ⟨t1, e2, hm⟩ := bd_some hm
    refine ⟨F0, _, _, _, _, _, ((a__law_rule.1, a__law_rule.2.1, a__law_rule.2.2)), t1, rfl, S.sub, ⟨w__law_rule.fr, w__law_rule.at_, .inr (rfl)⟩, f_openers, f_closers, f_settings, e2, fun v6 F3 H4 c5 f7 => ?_⟩
    have S8 := S.call0 c5
    have f__law_values := (qL qTh).mono c5.le f__law_values
    have f__law_begins := (qL qS).mono c5.le f__law_begins
    have f__law_ends := (qL qS).mono c5.le f__law_ends
    have f_openers := (qL qPat).mono c5.le f_openers
    have f_closers := (qL qPat).mono c5.le f_closers
    have f_settings := qSd.mono c5.le f_settings
    have w__law_rule := w__law_rule.call0 c5
    refine rd_cons ?_
    refine rd_prop ?_
    refine rd_v rfl ?_
    refine pr_at w__law_rule.at_ ?_
    obtain ⟨t9, e10, hm⟩ := bd_some hm
    refine ⟨F3, _, _, _, _, _, ((a__law_rule.1, a__law_rule.2.1, a__law_rule.2.2)), t9, rfl, S8.sub, ⟨w__law_rule.fr, w__law_rule.at_, .inr (rfl)⟩, f_openers, f_closers, f_settings, e10, fun v14 F11 H12 c13 f15 => ?_⟩
    have S16 := S8.call0 c13
    have f__law_values := (qL qTh).mono c13.le f__law_values
    have f__law_begins := (qL qS).mono c13.le f__law_begins
    have f__law_ends := (qL qS).mono c13.le f__law_ends
    have f7 := qTh.mono c13.le f7
    have f_openers := (qL qPat).mono c13.le f_openers
    have f_closers := (qL qPat).mono c13.le f_closers
    have f_settings := qSd.mono c13.le f_settings
    have w__law_rule := w__law_rule.call0 c13
    refine rd_cons ?_
    refine rd_prop ?_
    refine rd_v rfl ?_
    refine pr_at w__law_rule.at_ ?_
    obtain ⟨t17, e18, hm⟩ := bd_some hm
    refine ⟨F11, _, _, _, _, _, ((a__law_rule.1, a__law_rule.2.1, a__law_rule.2.2)), t17, rfl, S16.sub, ⟨w__law_rule.fr, w__law_rule.at_, .inr (rfl)⟩, f_openers, f_closers, f_settings, e18, fun v22 F19 H20 c21 f23 => ?_⟩
    have S24 := S16.call0 c21
    have f__law_values := (qL qTh).mono c21.le f__law_values
    have f__law_begins := (qL qS).mono c21.le f__law_begins
    have f__law_ends := (qL qS).mono c21.le f__law_ends
    have f7 := qTh.mono c21.le f7
    have f15 := qTh.mono c21.le f15
    have f_openers := (qL qPat).mono c21.le f_openers
    have f_closers := (qL qPat).mono c21.le f_closers
    have f_settings := qSd.mono c21.le f_settings
    have w__law_rule := w__law_rule.call0 c21
    refine rd_cons ?_
    refine rd_prop ?_
    refine rd_v rfl ?_
    refine pr_at w__law_rule.at_ ?_
    obtain ⟨t25, e26, hm⟩ := bd_some hm
    refine ⟨F19, _, _, _, _, _, ((a__law_rule.1, a__law_rule.2.1, a__law_rule.2.2)), t25, rfl, S24.sub, ⟨w__law_rule.fr, w__law_rule.at_, .inr (rfl)⟩, f_openers, f_closers, f_settings, e26, fun v30 F27 H28 c29 f31 => ?_⟩
    have S32 := S24.call0 c29
    have f__law_values := (qL qTh).mono c29.le f__law_values
    have f__law_begins := (qL qS).mono c29.le f__law_begins
    have f__law_ends := (qL qS).mono c29.le f__law_ends
    have f7 := qTh.mono c29.le f7
    have f15 := qTh.mono c29.le f15
    have f23 := qTh.mono c29.le f23
    have f_openers := (qL qPat).mono c29.le f_openers
    have f_closers := (qL qPat).mono c29.le f_closers
    have f_settings := qSd.mono c29.le f_settings
    have w__law_rule := w__law_rule.call0 c29
    refine rd_nil ?_
    refine rd_lK rfl ?_
    refine alL (K := K) (A := qTh) (xs := [t1, t9, t17, t25]) S32 (.cons f7 (.cons f15 (.cons f23 (.cons f31 .nil)))) (fun v33 F34 H35 c36 f37 => ?_)
    have S38 := S32.call0 c36
    have f__law_values := (qL qTh).mono c36.le f__law_values
    have f__law_begins := (qL qS).mono c36.le f__law_begins
    have f__law_ends := (qL qS).mono c36.le f__law_ends
    have f_openers := (qL qPat).mono c36.le f_openers
    have f_closers := (qL qPat).mono c36.le f_closers
    have f_settings := qSd.mono c36.le f_settings
    have w__law_rule := w__law_rule.call0 c36
    obtain ⟨g39, hm⟩ := gd_some hm
    refine rd_gn ?_
    refine rd_seq ?_
    refine rd_for ?_
    refine rd_iR1 ?_
    refine rd_cons ?_
    refine rd_c ?_
    refine rd_nil ?_
    refine rd_r1 g39 ?_
    obtain ⟨t40, e41, hm⟩ := bd_some hm
    refine rd_forC feedsRg (typedR (K := K) (F := F34)) e41 (fun (s42 : Unit) σ H => ∃ (F : Hp) (o5 : Option V) (o6 : Option V), σ = [some (V.ref p__law_rule), some v__law_values, some v__law_begins, some v__law_ends, some v33, o5, o6] ∧ Sx P0 F34 H35 F H) ?_ ?_ ?_ ?_
    · intro _ _ _ _; trivial
    · skip
      have S44 := Sx.refl0 S38.sub
      exact ⟨F34, _, _, rfl, S44⟩
    · skip
      rintro x45 v46 s47 c51 σ48 H49 f50 ⟨F52, o54, o55, rfl, S53⟩ hm58 hbk56 hrt57
      have f__law_values := (qL qTh).mono S53.le f__law_values
      have f__law_begins := (qL qS).mono S53.le f__law_begins
      have f__law_ends := (qL qS).mono S53.le f__law_ends
      have f37 := (qL qTh).mono S53.le f37
      have f_openers := (qL qPat).mono S53.le f_openers
      have f_closers := (qL qPat).mono S53.le f_closers
      have f_settings := qSd.mono S53.le f_settings
      have w__law_rule := w__law_rule.call0 S53
      unfold m_law_tells_b1 at hm58
      cases (show v46 = (V.int (x45)) from f50)
      obtain ⟨t59, e60, hm58⟩ := bd_some hm58
      refine rd_gn ?_
      refine rd_ifS ?_
      refine rd_or ?_
      refine rd_not ?_
      refine rd_tB ?_
      refine rd_call ?_
      refine rd_cons ?_
      refine rd_op ?_
      refine rd_v rfl ?_
      refine rd_v rfl ?_
      refine rd_ixL (S53.l f37).r e60 (fun u61 f62 => ?_)
      obtain ⟨t63, e64, hm58⟩ := bd_some hm58
      refine rd_cons ?_
      refine rd_op ?_
      refine rd_v rfl ?_
      refine rd_v rfl ?_
      refine rd_ixL (S53.l f__law_values).r e64 (fun u65 f66 => ?_)
      obtain ⟨t67, e68, hm58⟩ := bd_some hm58
      refine rd_nil ?_
      refine ⟨F52, _, _, _, _, t67, rfl, S53.sub, f62, f66, e68, fun v72 F69 H70 c71 f73 => ?_⟩
      have S74 := S53.call0 c71
      have f__law_values := (qL qTh).mono c71.le f__law_values
      have f__law_begins := (qL qS).mono c71.le f__law_begins
      have f__law_ends := (qL qS).mono c71.le f__law_ends
      have f37 := (qL qTh).mono c71.le f37
      have f_openers := (qL qPat).mono c71.le f_openers
      have f_closers := (qL qPat).mono c71.le f_closers
      have f_settings := qSd.mono c71.le f_settings
      have w__law_rule := w__law_rule.call0 c71
      cases (show v72 = (V.bl (t67)) from f73)
      obtain ⟨t83, e84, hm58⟩ := bd_some hm58
      refine rd_b ?_
      refine or_j (fun c H' => c = t83 ∧ ∃ F', Sx P0 F69 H70 F' H') ?_ ?_ ?_
      · intro b85 Q86 q87
        have e84 := if_f e84 b85
        have S88 := Sx.refl0 S74.sub
        obtain ⟨t89, e90, e84⟩ := bd_some e84
        refine rd_test ?_
        refine rd_op ?_
        refine rd_op ?_
        refine rd_op ?_
        refine rd_v rfl ?_
        refine rd_v rfl ?_
        refine rd_ixL (S88.l f37).r e90 (fun u91 f92 => ?_)
        obtain ⟨t93, e94, e84⟩ := bd_some e84
        refine rd_c ?_
        refine rd_isNTh f92 ?_
        refine rd_op ?_
        refine rd_op ?_
        refine rd_v rfl ?_
        refine rd_v rfl ?_
        refine rd_ixL (S88.l f__law_values).r e94 (fun u95 f96 => ?_)
        cases e84
        refine rd_c ?_
        refine rd_isNTh f96 ?_
        refine rd_B0 ?_
        refine rd_b ?_
        exact q87 _ _ ⟨rfl, F69, S88⟩
      · intro b85
        have e84 := if_t e84 b85
        cases e84
        have S97 := Sx.refl0 S74.sub
        exact ⟨rfl, F69, S97⟩
      rintro b101 H99 ⟨rfl, F98, c100⟩
      have S102 := S74.call0 c100
      have f__law_values := (qL qTh).mono c100.le f__law_values
      have f__law_begins := (qL qS).mono c100.le f__law_begins
      have f__law_ends := (qL qS).mono c100.le f__law_ends
      have f37 := (qL qTh).mono c100.le f37
      have f_openers := (qL qPat).mono c100.le f_openers
      have f_closers := (qL qPat).mono c100.le f_closers
      have f_settings := qSd.mono c100.le f_settings
      have w__law_rule := w__law_rule.call0 c100
      refine if_b hm58 (fun b103 hm58 => ?_) (fun b103 hm58 => ?_)
      · skip
        cases hm58
        have e104 := hrt57 _ rfl
        subst e104
        have hm := aft_rt hm
        have S105 := S38.call0 S102
        cases hm
        refine rd_ret ?_
        refine rd_c ?_
        exact hQ _ _ _ S105 rfl
      · skip
        cases hm58
        refine rd_next ?_
        exact ⟨_, rfl, ⟨F98, _, _, rfl, S102⟩⟩
    · skip
      rintro s108 σ106 H107 e109 ⟨F110, o112, o113, rfl, S111⟩
      subst e109
      have hm := aft_nx hm
      have S114 := S38.call0 S111
      have f__law_values := (qL qTh).mono S111.le f__law_values
      have f__law_begins := (qL qS).mono S111.le f__law_begins
      have f__law_ends := (qL qS).mono S111.le f__law_ends
      have f37 := (qL qTh).mono S111.le f37
      have f_openers := (qL qPat).mono S111.le f_openers
      have f_closers := (qL qPat).mono S111.le f_closers
      have f_settings := qSd.mono S111.le f_settings
      have w__law_rule := w__law_rule.call0 S111
      refine rd_seq ?_
      refine rd_ifS ?_
      refine rd_test ?_
      refine rd_op ?_
      refine rd_lc ?_
      refine rd_iL ?_
      refine rd_meth ?_
      refine rd_v rfl ?_
      refine mt_at w__law_rule.at_ (by rfl) ?_
      obtain ⟨t115, e116, hm⟩ := bd_some hm
      refine rd_nil ?_
      refine ⟨F110, _, _, _, _, _, ((a__law_rule.1, a__law_rule.2.1, a__law_rule.2.2)), t115, rfl, S114.sub, ⟨w__law_rule.fr, w__law_rule.at_, .inr (rfl)⟩, f_openers, f_closers, f_settings, e116, fun p120 us121 F117 H118 np122 c119 w123 r124 => ?_⟩
      have ne125 : p__law_rule ≠ p120 := w__law_rule.ne np122
      have z126 := S114.free0 np122
      have S127 := S114.call0 c119
      have f__law_values := (qL qTh).mono c119.le f__law_values
      have f__law_begins := (qL qS).mono c119.le f__law_begins
      have f__law_ends := (qL qS).mono c119.le f__law_ends
      have f37 := (qL qTh).mono c119.le f37
      have f_openers := (qL qPat).mono c119.le f_openers
      have f_closers := (qL qPat).mono c119.le f_closers
      have f_settings := qSd.mono c119.le f_settings
      have w__law_rule := w__law_rule.call0 c119
      have w128 : Ow P0 H0 _ _ _ _ := ⟨w123.fr, w123.at_, .inl z126⟩
      obtain ⟨F129, S130, le131, f132, _, eq133⟩ := fz S127 w128 z126 r124
      have f__law_values := (qL qTh).mono le131 f__law_values
      have f__law_begins := (qL qS).mono le131 f__law_begins
      have f__law_ends := (qL qS).mono le131 f__law_ends
      have f37 := (qL qTh).mono le131 f37
      have f_openers := (qL qPat).mono le131 f_openers
      have f_closers := (qL qPat).mono le131 f_closers
      have f_settings := qSd.mono le131 f_settings
      have w__law_rule := w__law_rule.fzO ne125 eq133
      refine rd_wLF S130 (f132) (fun p134 vs135 hq136 row137 => ?_)
      obtain ⟨g138, hm⟩ := gd_some hm
      obtain ⟨t139, e140, hm⟩ := bd_some hm
      refine rd_comp (B := qS) feedsL (typedRow row137) e140 g138 (Pc := P0) (fun _ z => z.elim) S130.sub (fun (s141 : Unit) F H => True) ?_ ?_ ?_ ?_ ?_ ?_
      · intro _ _ _ S142 _
        exact (Same.seq S142.sub (Same.seq S142.le hq136))
      · trivial
      · intros; trivial
      · intros; trivial
      · skip
        intro x143 v144 s145 o146 F147 H148 d149 acc150 f151 S152 w153 w154 n155 hm156 E157 N158 hN159 hE160
        have f__law_values := (qL qTh).mono S152.le f__law_values
        have f__law_begins := (qL qS).mono S152.le f__law_begins
        have f__law_ends := (qL qS).mono S152.le f__law_ends
        have f37 := (qL qTh).mono S152.le f37
        have f_openers := (qL qPat).mono S152.le f_openers
        have f_closers := (qL qPat).mono S152.le f_closers
        have f_settings := qSd.mono S152.le f_settings
        have w__law_rule := w__law_rule.call0 S152
        have S161 := Sx.refl0 S152.sub
        unfold m_law_tells_b2 at hm156
        have f151 := qPat.mono S152.le f151
        refine rd_gn ?_
        refine rd_wp rfl ?_
        refine rd_yes ?_
        refine if_tt ?_
        refine rd_cb ?_
        refine rd_cons ?_
        refine rd_v rfl ?_
        refine rd_nil ?_
        refine VM.strW (vm_str T 3) S161 f151 ?_
        obtain ⟨t162, e163, hm156⟩ := bd_some hm156
        refine ⟨F147, _, _, t162, rfl, S161.sub, f151, rfl, e163, fun v167 F164 H165 c166 f168 => ?_⟩
        have S169 := S161.call0 c166
        have f__law_values := (qL qTh).mono c166.le f__law_values
        have f__law_begins := (qL qS).mono c166.le f__law_begins
        have f__law_ends := (qL qS).mono c166.le f__law_ends
        have f37 := (qL qTh).mono c166.le f37
        have f151 := qPat.mono c166.le f151
        have f_openers := (qL qPat).mono c166.le f_openers
        have f_closers := (qL qPat).mono c166.le f_closers
        have f_settings := qSd.mono c166.le f_settings
        have w__law_rule := w__law_rule.call0 c166
        cases (show v167 = (V.str (t162)) from f168)
        cases hm156
        refine rd_stK ?_
        exact hN159 _ _ _ _ rfl S169 rfl trivial
      intro p170 us171 F172 H173 n174 c175 w176 w177 r178
      have z179 := S130.free0 n174
      have ne180 : p__law_rule ≠ p170 := w__law_rule.ne n174
      have S181 := S130.call0 c175
      have f__law_values := (qL qTh).mono c175.le f__law_values
      have f__law_begins := (qL qS).mono c175.le f__law_begins
      have f__law_ends := (qL qS).mono c175.le f__law_ends
      have f37 := (qL qTh).mono c175.le f37
      have f_openers := (qL qPat).mono c175.le f_openers
      have f_closers := (qL qPat).mono c175.le f_closers
      have f_settings := qSd.mono c175.le f_settings
      have w__law_rule := w__law_rule.call0 c175
      have w182 : Ow P0 H0 _ _ _ _ := ⟨w177.fr, w177.at_, .inl z179⟩
      obtain ⟨F183, S184, le185, f186, _, eq187⟩ := fz S181 w182 z179 r178
      have f__law_values := (qL qTh).mono le185 f__law_values
      have f__law_begins := (qL qS).mono le185 f__law_begins
      have f__law_ends := (qL qS).mono le185 f__law_ends
      have f37 := (qL qTh).mono le185 f37
      have f_openers := (qL qPat).mono le185 f_openers
      have f_closers := (qL qPat).mono le185 f_closers
      have f_settings := qSd.mono le185 f_settings
      have w__law_rule := w__law_rule.fzO ne180 eq187
      obtain ⟨g188, hm⟩ := gd_some hm
      obtain ⟨g189, hm⟩ := gd_some hm
      refine rd_v rfl ?_
      refine rd_neD (D := (dL dS)) (S184.d (dL dS) f186) (S184.d (dL dS) f__law_begins) g188 g189 ?_
      refine rd_b ?_
      refine if_b hm (fun b190 hm => ?_) (fun b190 hm => ?_)
      · skip
        cases hm
        refine rd_ret ?_
        refine rd_c ?_
        exact hQ _ _ _ S184 rfl
      · skip
        refine rd_next ?_
        refine rd_ret ?_
        refine rd_op ?_
        refine rd_lc ?_
        refine rd_iL ?_
        refine rd_meth ?_
        refine rd_v rfl ?_
        refine mt_at w__law_rule.at_ (by rfl) ?_
        obtain ⟨t191, e192, hm⟩ := bd_some hm
        refine rd_nil ?_
        refine ⟨F183, _, _, _, _, _, ((a__law_rule.1, a__law_rule.2.1, a__law_rule.2.2)), t191, rfl, S184.sub, ⟨w__law_rule.fr, w__law_rule.at_, .inr (rfl)⟩, f_openers, f_closers, f_settings, e192, fun p196 us197 F193 H194 np198 c195 w199 r200 => ?_⟩
        have ne201 : p__law_rule ≠ p196 := w__law_rule.ne np198
        have z202 := S184.free0 np198
        have S203 := S184.call0 c195
        have f__law_values := (qL qTh).mono c195.le f__law_values
        have f__law_begins := (qL qS).mono c195.le f__law_begins
        have f__law_ends := (qL qS).mono c195.le f__law_ends
        have f37 := (qL qTh).mono c195.le f37
        have f_openers := (qL qPat).mono c195.le f_openers
        have f_closers := (qL qPat).mono c195.le f_closers
        have f_settings := qSd.mono c195.le f_settings
        have w__law_rule := w__law_rule.call0 c195
        have w204 : Ow P0 H0 _ _ _ _ := ⟨w199.fr, w199.at_, .inl z202⟩
        obtain ⟨F205, S206, le207, f208, _, eq209⟩ := fz S203 w204 z202 r200
        have f__law_values := (qL qTh).mono le207 f__law_values
        have f__law_begins := (qL qS).mono le207 f__law_begins
        have f__law_ends := (qL qS).mono le207 f__law_ends
        have f37 := (qL qTh).mono le207 f37
        have f_openers := (qL qPat).mono le207 f_openers
        have f_closers := (qL qPat).mono le207 f_closers
        have f_settings := qSd.mono le207 f_settings
        have w__law_rule := w__law_rule.fzO ne201 eq209
        refine rd_wLF S206 (f208) (fun p210 vs211 hq212 row213 => ?_)
        obtain ⟨g214, hm⟩ := gd_some hm
        obtain ⟨t215, e216, hm⟩ := bd_some hm
        refine rd_comp (B := qS) feedsL (typedRow row213) e216 g214 (Pc := P0) (fun _ z => z.elim) S206.sub (fun (s217 : Unit) F H => True) ?_ ?_ ?_ ?_ ?_ ?_
        · intro _ _ _ S218 _
          exact (Same.seq S218.sub (Same.seq S218.le hq212))
        · trivial
        · intros; trivial
        · intros; trivial
        · skip
          intro x219 v220 s221 o222 F223 H224 d225 acc226 f227 S228 w229 w230 n231 hm232 E233 N234 hN235 hE236
          have f__law_values := (qL qTh).mono S228.le f__law_values
          have f__law_begins := (qL qS).mono S228.le f__law_begins
          have f__law_ends := (qL qS).mono S228.le f__law_ends
          have f37 := (qL qTh).mono S228.le f37
          have f_openers := (qL qPat).mono S228.le f_openers
          have f_closers := (qL qPat).mono S228.le f_closers
          have f_settings := qSd.mono S228.le f_settings
          have w__law_rule := w__law_rule.call0 S228
          have S237 := Sx.refl0 S228.sub
          unfold m_law_tells_b3 at hm232
          have f227 := qPat.mono S228.le f227
          refine rd_gn ?_
          refine rd_wp rfl ?_
          refine rd_yes ?_
          refine if_tt ?_
          refine rd_cb ?_
          refine rd_cons ?_
          refine rd_v rfl ?_
          refine rd_nil ?_
          refine VM.strW (vm_str T 3) S237 f227 ?_
          obtain ⟨t238, e239, hm232⟩ := bd_some hm232
          refine ⟨F223, _, _, t238, rfl, S237.sub, f227, rfl, e239, fun v243 F240 H241 c242 f244 => ?_⟩
          have S245 := S237.call0 c242
          have f__law_values := (qL qTh).mono c242.le f__law_values
          have f__law_begins := (qL qS).mono c242.le f__law_begins
          have f__law_ends := (qL qS).mono c242.le f__law_ends
          have f37 := (qL qTh).mono c242.le f37
          have f227 := qPat.mono c242.le f227
          have f_openers := (qL qPat).mono c242.le f_openers
          have f_closers := (qL qPat).mono c242.le f_closers
          have f_settings := qSd.mono c242.le f_settings
          have w__law_rule := w__law_rule.call0 c242
          cases (show v243 = (V.str (t238)) from f244)
          cases hm232
          refine rd_stK ?_
          exact hN235 _ _ _ _ rfl S245 rfl trivial
        intro p246 us247 F248 H249 n250 c251 w252 w253 r254
        have z255 := S206.free0 n250
        have ne256 : p__law_rule ≠ p246 := w__law_rule.ne n250
        have S257 := S206.call0 c251
        have f__law_values := (qL qTh).mono c251.le f__law_values
        have f__law_begins := (qL qS).mono c251.le f__law_begins
        have f__law_ends := (qL qS).mono c251.le f__law_ends
        have f37 := (qL qTh).mono c251.le f37
        have f_openers := (qL qPat).mono c251.le f_openers
        have f_closers := (qL qPat).mono c251.le f_closers
        have f_settings := qSd.mono c251.le f_settings
        have w__law_rule := w__law_rule.call0 c251
        have w258 : Ow P0 H0 _ _ _ _ := ⟨w253.fr, w253.at_, .inl z255⟩
        obtain ⟨F259, S260, le261, f262, _, eq263⟩ := fz S257 w258 z255 r254
        have f__law_values := (qL qTh).mono le261 f__law_values
        have f__law_begins := (qL qS).mono le261 f__law_begins
        have f__law_ends := (qL qS).mono le261 f__law_ends
        have f37 := (qL qTh).mono le261 f37
        have f_openers := (qL qPat).mono le261 f_openers
        have f_closers := (qL qPat).mono le261 f_closers
        have f_settings := qSd.mono le261 f_settings
        have w__law_rule := w__law_rule.fzO ne256 eq263
        obtain ⟨g264, hm⟩ := gd_some hm
        obtain ⟨g265, hm⟩ := gd_some hm
        cases hm
        refine rd_v rfl ?_
        refine rd_eqD (D := (dL dS)) (S260.d (dL dS) f262) (S260.d (dL dS) f__law_ends) g264 g265 ?_
        exact hQ _ _ _ S260 rfl
def sp_assign_vx (K : PySem.W.Frag) : Sp := fun vs H Q E => ∃ (F : Hp) (p_rule : Addr) (dx : Addr) (u_openers : V) (u_closers : V) (u_settings : V) (a_rule : ((List Pat) × (List Pat) × (List (Str × Th)))) (a_field : Str) (v_value : V) (a_value : Th) (rr : (Except Str (Unit × (List (Str × Th))))), vs = [.ref p_rule, (V.str (a_field)), v_value] ∧ Same F H ∧ Ow (fun a => a = p_rule) H F H p_rule (.ins (He.ga K "Rule") dx [("openers", u_openers), ("closers", u_closers), ("settings", u_settings)]) ∧ (qL qPat).r K F u_openers a_rule.1 ∧ (qL qPat).r K F u_closers a_rule.2.1 ∧ qSd.r K F u_settings a_rule.2.2 ∧ qTh.r K F v_value a_value ∧ m_assign_vx a_rule a_field a_value = some rr ∧ (∀ r, rr = .ok r → ∀ (v : V) (F' H' : Hp) (u'_settings : V), Sx (fun a => a = p_rule) F H F' H' → Ow (fun a => a = p_rule) H F' H' p_rule (.ins (He.ga K "Rule") dx [("openers", u_openers), ("closers", u_closers), ("settings", u'_settings)]) → qSd.r K F' u'_settings r.2 → qN.r K F' v r.1 → Q v H') ∧ (∀ e cls d F' H', rr = .error e → Sx (fun a => a = p_rule) F H F' H' → Ow (fun a => a = p_rule) H F' H' p_rule (.ins (He.ga K "Rule") dx [("openers", u_openers), ("closers", u_closers), ("settings", u_settings)]) → ErrAt K H' "NoRule" ["field"] [.str e] cls d → E cls d H')
theorem sc_assign_vx : FnScope ["rule", "field", "value"] ["rule", "field", "value"] (defScope s_assign) := ⟨rfl, rfl, rfl, by decide +kernel, rfl, by decide +kernel, by decide +kernel⟩
theorem bn_assign_vx (T : Tx P K mg) : Binds K (fdOf K ("assign", none)) ["rule", "field", "value"] [] := FunD.bindsN T.F_assign fun _ _ _ _ _ _ us hl => match us, hl with | [_, _, _], _ => rfl
theorem ok_assign_vx (T : Tx P K mg) : FnOk P w K mg base (L2.CX P w) 8 (He.ga K "assign") (fdOf K ("assign", none)) ["rule", "field", "value"] (sp_assign_vx K) := by
  refine FunD.ok T.F_assign sc_assign_vx (fun vs H0 Q E h => ?_) (fun cdv A outer s H0 vs Q E hr h => ?_)
  · obtain ⟨_, _, _, _, _, _, _, _, _, _, _, rfl, _⟩ := h
    rfl
  · obtain ⟨F0, p_rule, dx, u_openers, u_closers, u_settings, a_rule, a_field, v_value, a_value, rr, rfl, hE, w_rule, f_openers, f_closers, f_settings, f_value, hm, hQ, hX⟩ := h
    refine ⟨_, (pss_one (ps_if (pt_cmpR op_eqS (pv 1) pe_str (nomark _)) (pss_one (ps_setprop (pv 0) (pv 2) T.ps_Rule_most_vset.p (ok_Rule_most_vs T) (hr.mono (by decide)) (bn_Rule_most_vs T) passes_cx rfl)) (pss_one (ps_if (pt_cmpR op_eqS (pv 1) pe_str (nomark _)) (pss_one (ps_setprop (pv 0) (pv 2) T.ps_Rule_alone_vset.p (ok_Rule_alone_vs T) (hr.mono (by decide)) (bn_Rule_alone_vs T) passes_cx rfl)) (pss_one (ps_if (pt_cmpR op_eqS (pv 1) pe_str (nomark _)) (pss_one (ps_setprop (pv 0) (pv 2) T.ps_Rule_tags_vset.p (ok_Rule_tags_vs T) (hr.mono (by decide)) (bn_Rule_tags_vs T) passes_cx rfl)) (pss_one (ps_if (pt_cmpR op_eqS (pv 1) pe_str (nomark _)) (pss_one (ps_setprop (pv 0) (pv 2) T.ps_Rule_quiet_vset.p (ok_Rule_quiet_vs T) (hr.mono (by decide)) (bn_Rule_quiet_vs T) passes_cx rfl)) (pss_one (ps_rz (pmk_err (k := 0) T.er_NoRule.c is_NoRule T.er_NoRule.no T.er_NoRule.g T.er_NoRule.k (hr.mono (by decide)) (by rfl) (pa_cons pe_str pa_nil)))))))))))), ?_⟩
    have S : Sx (fun a => a = p_rule) F0 H0 F0 H0 := Sx.refl hE (by
        rintro a rfl
        · rw [w_rule.at_]; exact (fun h => nomatch h))
    unfold m_assign_vx at hm
    refine rd_ifS ?_
    refine rd_test ?_
    refine rd_op ?_
    refine rd_v rfl ?_
    refine rd_c ?_
    refine rd_S0 ?_
    refine rd_b ?_
    refine if_b hm (fun b1 hm => ?_) (fun b1 hm => ?_)
    · skip
      obtain ⟨t2, e3, hm⟩ := bd_some hm
      refine rd_setP ?_
      refine rd_v rfl ?_
      refine rd_v rfl ?_
      refine sp_at w_rule.at_ ?_
      refine ⟨F0, _, _, _, _, _, ((a_rule.1, a_rule.2.1, a_rule.2.2)), _, _, t2, rfl, S.sub, ⟨w_rule.fr, w_rule.at_, .inr (rfl)⟩, f_openers, f_closers, f_settings, f_value, e3, ?_, ?_⟩
      rotate_left
      · skip
        intro x14 cls15 d16 F17 H18 ee19 c20 w22 ea21
        have S23 := S.call1 c20 w_rule
        have f_value := qTh.mono c20.le f_value
        have f_openers := (qL qPat).mono c20.le f_openers
        have f_closers := (qL qPat).mono c20.le f_closers
        have f_settings := qSd.mono c20.le f_settings
        have w24 : Ow (fun a => a = p_rule) H0 _ _ _ _ := ⟨w22.fr, w22.at_, w_rule.mine⟩
        exact hX _ _ _ _ _ (exB_err ee19 hm) S23 w24 ea21
      intro t4 er10 v8 F5 H6 u12 c7 w11 f13 f9
      subst er10
      have hm := exB_ok hm
      have S25 := S.call1 c7 w_rule
      have f_value := qTh.mono c7.le f_value
      have f_openers := (qL qPat).mono c7.le f_openers
      have f_closers := (qL qPat).mono c7.le f_closers
      have f_settings := qSd.mono c7.le f_settings
      have w26 : Ow (fun a => a = p_rule) H0 _ _ _ _ := ⟨w11.fr, w11.at_, w_rule.mine⟩
      cases (show v8 = V.non from f9)
      cases hm
      exact hQ _ rfl _ _ _ _ S25 w26 f13 rfl
    · skip
      refine rd_ifS ?_
      refine rd_test ?_
      refine rd_op ?_
      refine rd_v rfl ?_
      refine rd_c ?_
      refine rd_S0 ?_
      refine rd_b ?_
      refine if_b hm (fun b27 hm => ?_) (fun b27 hm => ?_)
      · skip
        obtain ⟨t28, e29, hm⟩ := bd_some hm
        refine rd_setP ?_
        refine rd_v rfl ?_
        refine rd_v rfl ?_
        refine sp_at w_rule.at_ ?_
        refine ⟨F0, _, _, _, _, _, ((a_rule.1, a_rule.2.1, a_rule.2.2)), _, _, t28, rfl, S.sub, ⟨w_rule.fr, w_rule.at_, .inr (rfl)⟩, f_openers, f_closers, f_settings, f_value, e29, ?_, ?_⟩
        rotate_left
        · skip
          intro x40 cls41 d42 F43 H44 ee45 c46 w48 ea47
          have S49 := S.call1 c46 w_rule
          have f_value := qTh.mono c46.le f_value
          have f_openers := (qL qPat).mono c46.le f_openers
          have f_closers := (qL qPat).mono c46.le f_closers
          have f_settings := qSd.mono c46.le f_settings
          have w50 : Ow (fun a => a = p_rule) H0 _ _ _ _ := ⟨w48.fr, w48.at_, w_rule.mine⟩
          exact hX _ _ _ _ _ (exB_err ee45 hm) S49 w50 ea47
        intro t30 er36 v34 F31 H32 u38 c33 w37 f39 f35
        subst er36
        have hm := exB_ok hm
        have S51 := S.call1 c33 w_rule
        have f_value := qTh.mono c33.le f_value
        have f_openers := (qL qPat).mono c33.le f_openers
        have f_closers := (qL qPat).mono c33.le f_closers
        have f_settings := qSd.mono c33.le f_settings
        have w52 : Ow (fun a => a = p_rule) H0 _ _ _ _ := ⟨w37.fr, w37.at_, w_rule.mine⟩
        cases (show v34 = V.non from f35)
        cases hm
        exact hQ _ rfl _ _ _ _ S51 w52 f39 rfl
      · skip
        refine rd_ifS ?_
        refine rd_test ?_
        refine rd_op ?_
        refine rd_v rfl ?_
        refine rd_c ?_
        refine rd_S0 ?_
        refine rd_b ?_
        refine if_b hm (fun b53 hm => ?_) (fun b53 hm => ?_)
        · skip
          obtain ⟨t54, e55, hm⟩ := bd_some hm
          refine rd_setP ?_
          refine rd_v rfl ?_
          refine rd_v rfl ?_
          refine sp_at w_rule.at_ ?_
          refine ⟨F0, _, _, _, _, _, ((a_rule.1, a_rule.2.1, a_rule.2.2)), _, _, t54, rfl, S.sub, ⟨w_rule.fr, w_rule.at_, .inr (rfl)⟩, f_openers, f_closers, f_settings, f_value, e55, ?_, ?_⟩
          rotate_left
          · skip
            intro x66 cls67 d68 F69 H70 ee71 c72 w74 ea73
            have S75 := S.call1 c72 w_rule
            have f_value := qTh.mono c72.le f_value
            have f_openers := (qL qPat).mono c72.le f_openers
            have f_closers := (qL qPat).mono c72.le f_closers
            have f_settings := qSd.mono c72.le f_settings
            have w76 : Ow (fun a => a = p_rule) H0 _ _ _ _ := ⟨w74.fr, w74.at_, w_rule.mine⟩
            exact hX _ _ _ _ _ (exB_err ee71 hm) S75 w76 ea73
          intro t56 er62 v60 F57 H58 u64 c59 w63 f65 f61
          subst er62
          have hm := exB_ok hm
          have S77 := S.call1 c59 w_rule
          have f_value := qTh.mono c59.le f_value
          have f_openers := (qL qPat).mono c59.le f_openers
          have f_closers := (qL qPat).mono c59.le f_closers
          have f_settings := qSd.mono c59.le f_settings
          have w78 : Ow (fun a => a = p_rule) H0 _ _ _ _ := ⟨w63.fr, w63.at_, w_rule.mine⟩
          cases (show v60 = V.non from f61)
          cases hm
          exact hQ _ rfl _ _ _ _ S77 w78 f65 rfl
        · skip
          refine rd_ifS ?_
          refine rd_test ?_
          refine rd_op ?_
          refine rd_v rfl ?_
          refine rd_c ?_
          refine rd_S0 ?_
          refine rd_b ?_
          refine if_b hm (fun b79 hm => ?_) (fun b79 hm => ?_)
          · skip
            obtain ⟨t80, e81, hm⟩ := bd_some hm
            refine rd_setP ?_
            refine rd_v rfl ?_
            refine rd_v rfl ?_
            refine sp_at w_rule.at_ ?_
            refine ⟨F0, _, _, _, _, _, ((a_rule.1, a_rule.2.1, a_rule.2.2)), _, _, t80, rfl, S.sub, ⟨w_rule.fr, w_rule.at_, .inr (rfl)⟩, f_openers, f_closers, f_settings, f_value, e81, ?_, ?_⟩
            rotate_left
            · skip
              intro x92 cls93 d94 F95 H96 ee97 c98 w100 ea99
              have S101 := S.call1 c98 w_rule
              have f_value := qTh.mono c98.le f_value
              have f_openers := (qL qPat).mono c98.le f_openers
              have f_closers := (qL qPat).mono c98.le f_closers
              have f_settings := qSd.mono c98.le f_settings
              have w102 : Ow (fun a => a = p_rule) H0 _ _ _ _ := ⟨w100.fr, w100.at_, w_rule.mine⟩
              exact hX _ _ _ _ _ (exB_err ee97 hm) S101 w102 ea99
            intro t82 er88 v86 F83 H84 u90 c85 w89 f91 f87
            subst er88
            have hm := exB_ok hm
            have S103 := S.call1 c85 w_rule
            have f_value := qTh.mono c85.le f_value
            have f_openers := (qL qPat).mono c85.le f_openers
            have f_closers := (qL qPat).mono c85.le f_closers
            have f_settings := qSd.mono c85.le f_settings
            have w104 : Ow (fun a => a = p_rule) H0 _ _ _ _ := ⟨w89.fr, w89.at_, w_rule.mine⟩
            cases (show v86 = V.non from f87)
            cases hm
            exact hQ _ rfl _ _ _ _ S103 w104 f91 rfl
          · skip
            cases hm
            refine rd_rz ?_
            refine rd_cons ?_
            refine rd_c ?_
            refine rd_nil ?_
            exact rd_eK (xs := [.str ((("name" : Str)) : Str)]) (Sx.refl0 S.sub) rfl rfl fun cls d H1 c er => hX _ _ _ _ _ rfl (S.call0 c) (w_rule.call0 c) er
def sp_law_assigned (K : PySem.W.Frag) : Sp := fun vs H Q _ => ∃ (F : Hp) (p__law_rule : Addr) (dx : Addr) (u_openers : V) (u_closers : V) (u_settings : V) (a__law_rule : ((List Pat) × (List Pat) × (List (Str × Th)))) (a__law_field : Str) (v__law_value_here : V) (a__law_value_here : Th) (r : ((Option Str) × (List (Str × Th)))), vs = [.ref p__law_rule, (V.str (a__law_field)), v__law_value_here] ∧ Same F H ∧ Ow (fun a => a = p__law_rule) H F H p__law_rule (.ins (He.ga K "Rule") dx [("openers", u_openers), ("closers", u_closers), ("settings", u_settings)]) ∧ (qL qPat).r K F u_openers a__law_rule.1 ∧ (qL qPat).r K F u_closers a__law_rule.2.1 ∧ qSd.r K F u_settings a__law_rule.2.2 ∧ qTh.r K F v__law_value_here a__law_value_here ∧ m_law_assigned a__law_rule a__law_field a__law_value_here = some r ∧ ∀ (v : V) (F' H' : Hp) (u'_settings : V), Sx (fun a => a = p__law_rule) F H F' H' → Ow (fun a => a = p__law_rule) H F' H' p__law_rule (.ins (He.ga K "Rule") dx [("openers", u_openers), ("closers", u_closers), ("settings", u'_settings)]) → qSd.r K F' u'_settings r.2 → (qO qS).r K F' v r.1 → Q v H'
theorem sc_law_assigned : FnScope ["_law_rule", "_law_field", "_law_value_here", "_law_told", "e"] ["_law_rule", "_law_field", "_law_value_here"] (defScope s_law_assigned) := ⟨rfl, rfl, rfl, by decide +kernel, rfl, by decide +kernel, by decide +kernel⟩
theorem bn_law_assigned (T : Tx P K mg) : Binds K (fdOf K ("_law_assigned", none)) ["_law_rule", "_law_field", "_law_value_here"] [] := FunD.bindsN T.F_law_assigned fun _ _ _ _ _ _ us hl => match us, hl with | [_, _, _], _ => rfl
theorem ok_law_assigned (T : Tx P K mg) : FnOk P w K mg base CX0 9 (He.ga K "_law_assigned") (fdOf K ("_law_assigned", none)) ["_law_rule", "_law_field", "_law_value_here"] (sp_law_assigned K) := by
  refine FunD.ok T.F_law_assigned sc_law_assigned (fun vs H0 Q E h => ?_) (fun cdv A outer s H0 vs Q E hr h => ?_)
  · obtain ⟨_, _, _, _, _, _, _, _, _, _, _, rfl, _⟩ := h
    rfl
  · obtain ⟨F0, p__law_rule, dx, u_openers, u_closers, u_settings, a__law_rule, a__law_field, v__law_value_here, a__law_value_here, r, rfl, hE, w__law_rule, f_openers, f_closers, f_settings, f__law_value_here, hm, hQ⟩ := h
    refine ⟨_, PSs.nox ((pss_cons (ps_tryK (i := 4) rfl rfl sc_law_assigned.nd rfl rfl ⟨by rfl, by decide, .inl T.gx_NoRule⟩ takesF (fun W pn xe tk own => (pss_one (ps_set (i := 3) sc_law_assigned.nd rfl (dk rfl) (pe_callS (ok_assign_vx T) (hr.mono (by decide)) (by rfl) T.g_assign T.F_assign.kp (bn_assign_vx T) (fun σ => passAt tk σ) (pa_cons (pv 0) (pa_cons (pv 1) (pa_cons (pv 2) pa_nil))))))) (fun a oe cls d pn hz hf => (pss_one (ps_ret (pe_xf T.er_NoRule.xf (T.er_NoRule.no _ (by decide)) hz hf (pv 4)))))) (pss_cons (ps_if (pt_cmpR op_isN' (pv 3) pe_non (nomark _)) (pss_one (ps_ret pe_non)) pss_dead) pss_dead))), ?_⟩
    have S : Sx (fun a => a = p__law_rule) F0 H0 F0 H0 := Sx.refl hE (by
        rintro a rfl
        · rw [w__law_rule.at_]; exact (fun h => nomatch h))
    unfold m_law_assigned at hm
    obtain ⟨t1, e2, hm⟩ := bd_some hm
    refine rd_seq ?_
    refine rd_try ?_
    refine rd_asg ?_
    refine rd_callS ?_
    refine rd_cons ?_
    refine rd_v rfl ?_
    refine rd_cons ?_
    refine rd_v rfl ?_
    refine rd_cons ?_
    refine rd_v rfl ?_
    refine rd_nil ?_
    refine ⟨F0, _, _, _, _, _, ((a__law_rule.1, a__law_rule.2.1, a__law_rule.2.2)), _, _, _, t1, rfl, S.sub, ⟨w__law_rule.fr, w__law_rule.at_, .inr (rfl)⟩, f_openers, f_closers, f_settings, f__law_value_here, e2, ?_, ?_⟩
    rotate_left
    · skip
      intro x13 cls14 d15 F16 H17 ee18 c19 w21 ea20
      subst ee18
      have hm := exT_err hm
      obtain ⟨dd22, rfl, rfl, hx23⟩ := ea20
      refine rd_was T.xm_NoRule_NoRule (fun a24 na25 => ?_)
      have S26 := S.call1 c19 w__law_rule
      have f__law_value_here := qTh.mono c19.le f__law_value_here
      have f_openers := (qL qPat).mono c19.le f_openers
      have f_closers := (qL qPat).mono c19.le f_closers
      have f_settings := qSd.mono c19.le f_settings
      have w27 : Ow (fun a => a = p__law_rule) H0 _ _ _ _ := ⟨w21.fr, w21.at_, w__law_rule.mine⟩
      have f28 : (qO qS).r K F16 (V.str (x13)) (some x13) := (show (qO qS).r K F16 (V.str (x13)) (some x13) from rfl)
      cases hm
      refine rd_ret ?_
      refine rd_xf ?_
      refine rd_v rfl ?_
      refine xf_at hx23 (by rfl) ?_
      exact hQ _ _ _ _ S26 w27 f_settings f28
    intro t3 er9 v7 F4 H5 u11 c6 w10 f12 f8
    subst er9
    have hm := exT_ok hm
    have S29 := S.call1 c6 w__law_rule
    have f__law_value_here := qTh.mono c6.le f__law_value_here
    have f_openers := (qL qPat).mono c6.le f_openers
    have f_closers := (qL qPat).mono c6.le f_closers
    have f_settings := qSd.mono c6.le f_settings
    have w30 : Ow (fun a => a = p__law_rule) H0 _ _ _ _ := ⟨w10.fr, w10.at_, w__law_rule.mine⟩
    cases (show v7 = V.non from f8)
    have f31 : (qO qS).r K F4 V.non none := (show (qO qS).r K F4 V.non none from rfl)
    cases hm
    refine rd_gn ?_
    refine rd_seq ?_
    refine rd_ifS ?_
    refine rd_test ?_
    refine rd_op ?_
    refine rd_v rfl ?_
    refine rd_c ?_
    refine rd_isNt ?_
    refine rd_b ?_
    refine if_tt ?_
    refine rd_ret ?_
    refine rd_c ?_
    exact hQ _ _ _ _ S29 w30 f12 f31
def sp_law_assigns (K : PySem.W.Frag) : Sp := fun vs H Q _ => ∃ (F : Hp) (p__law_pool_here : Addr) (a__law_pool_here : Int × Int) (p__law_rule : Addr) (dx : Addr) (u_openers : V) (u_closers : V) (u_settings : V) (a__law_rule : ((List Pat) × (List Pat) × (List (Str × Th)))) (v__law_values : V) (a__law_values : (List Th)) (v__law_begins : V) (a__law_begins : (List Str)) (v__law_ends : V) (a__law_ends : (List Str)) (r : (((Option (List Th)) × (List (Str × Th))) × (Int × Int))), vs = [.ref p__law_pool_here, .ref p__law_rule, v__law_values, v__law_begins, v__law_ends] ∧ Same F H ∧ Ow (fun a => a = p__law_rule ∨ a = p__law_pool_here) H F H p__law_pool_here (.lst [.int a__law_pool_here.1, .int a__law_pool_here.2]) ∧ Ow (fun a => a = p__law_rule ∨ a = p__law_pool_here) H F H p__law_rule (.ins (He.ga K "Rule") dx [("openers", u_openers), ("closers", u_closers), ("settings", u_settings)]) ∧ (qL qPat).r K F u_openers a__law_rule.1 ∧ (qL qPat).r K F u_closers a__law_rule.2.1 ∧ qSd.r K F u_settings a__law_rule.2.2 ∧ p__law_rule ≠ p__law_pool_here ∧ (qL qTh).r K F v__law_values a__law_values ∧ (qL qS).r K F v__law_begins a__law_begins ∧ (qL qS).r K F v__law_ends a__law_ends ∧ m_law_assigns a__law_pool_here a__law_rule a__law_values a__law_begins a__law_ends = some r ∧ ∀ (v : V) (F' H' : Hp) (u'_settings : V), Sx (fun a => a = p__law_rule ∨ a = p__law_pool_here) F H F' H' → Ow (fun a => a = p__law_rule ∨ a = p__law_pool_here) H F' H' p__law_rule (.ins (He.ga K "Rule") dx [("openers", u_openers), ("closers", u_closers), ("settings", u'_settings)]) → qSd.r K F' u'_settings r.1.2 → Ow (fun a => a = p__law_rule ∨ a = p__law_pool_here) H F' H' p__law_pool_here (.lst [.int r.2.1, .int r.2.2]) → (qO (qL qTh)).r K F' v r.1.1 → Q v H'
theorem sc_law_assigns : FnScope ["_law_pool_here", "_law_rule", "_law_values", "_law_begins", "_law_ends", "_law_turn", "_law_k", "_law_value_here", "_law_due_here", "_law_other", "_law_at"] ["_law_pool_here", "_law_rule", "_law_values", "_law_begins", "_law_ends"] (defScope s_law_assigns) := ⟨rfl, rfl, rfl, by decide +kernel, rfl, by decide +kernel, by decide +kernel⟩
theorem bn_law_assigns (T : Tx P K mg) : Binds K (fdOf K ("_law_assigns", none)) ["_law_pool_here", "_law_rule", "_law_values", "_law_begins", "_law_ends"] [] := FunD.bindsN T.F_law_assigns fun _ _ _ _ _ _ us hl => match us, hl with | [_, _, _, _, _], _ => rfl
theorem ok_law_assigns (T : Tx P K mg) : FnOk P w K mg base CX0 14 (He.ga K "_law_assigns") (fdOf K ("_law_assigns", none)) ["_law_pool_here", "_law_rule", "_law_values", "_law_begins", "_law_ends"] (sp_law_assigns K) := by
  refine FunD.ok T.F_law_assigns sc_law_assigns (fun vs H0 Q E h => ?_) (fun cdv A outer s H0 vs Q E hr h => ?_)
  · obtain ⟨_, _, _, _, _, _, _, _, _, _, _, _, _, _, _, _, rfl, _⟩ := h
    rfl
  · obtain ⟨F0, p__law_pool_here, a__law_pool_here, p__law_rule, dx, u_openers, u_closers, u_settings, a__law_rule, v__law_values, a__law_values, v__law_begins, a__law_begins, v__law_ends, a__law_ends, r, rfl, hE, w__law_pool_here, w__law_rule, f_openers, f_closers, f_settings, nn_p__law_rule_p__law_pool_here, f__law_values, f__law_begins, f__law_ends, hm, hQ⟩ := h
    refine ⟨_, PSs.nox ((pss_cons (ps_for PassesOwn.never rfl (pi_range1 (by rfl) T.n_range (pa_cons pe_int pa_nil)) (pg_name (i := 5) sc_law_assigns.nd rfl (dk rfl)) (pss_cons (ps_set (i := 6) sc_law_assigns.nd rfl (dk rfl) (pe_call (ok_law_take T) (hr.mono (by decide)) (by rfl) T.g_law_take T.F_law_take.kp (bn_law_take T) .nil pass0 (pa_cons (pv 0) (pa_cons pe_int pa_nil)))) (pss_cons (ps_set (i := 7) sc_law_assigns.nd rfl (dk rfl) (pe_call (ok_law_value T) (hr.mono (by decide)) (by rfl) T.g_law_value T.F_law_value.kp (bn_law_value T) .nil pass0 (pa_cons (pv 0) (pa_cons (pv 6) pa_nil)))) (pss_cons (ps_set (i := 8) sc_law_assigns.nd rfl (dk rfl) (pe_call (ok_law_due T) (hr.mono (by decide)) (by rfl) T.g_law_due T.F_law_due.kp (bn_law_due T) .nil pass0 (pa_cons (pe_op op_rep (pe_lst (pa_cons (pv 7) pa_nil)) pe_int) (pa_cons (pe_lst (pa_cons (pv 6) pa_nil)) pa_nil)))) (pss_cons (ps_if (pt_cmpR (r := rNeD K) (op_neD hr.units) (pe_call (ok_law_assigned T) (hr.mono (by decide)) (by rfl) T.g_law_assigned T.F_law_assigned.kp (bn_law_assigned T) .nil pass0 (pa_cons (pv 1) (pa_cons (pe_ix (r := rIxL K) ix_list (pe_call0 (ok_law_fields T) (hr.mono (by decide)) (by rfl) T.g_law_fields T.F_law_fields.kp (bn_law_fields T) .nil pass0) (pv 6) (fun _ _ => rfl)) (pa_cons (pv 7) pa_nil)))) (pv 8) (nomark _)) (pss_one (ps_ret pe_non)) pss_nil) (C8.pss_cut (ps_if (pt_cmpR op_isN' (pv 8) pe_non (nomark _)) (pss_one (ps_set (i := 2) sc_law_assigns.nd rfl (dk rfl) (pe_lc (own := [("_law_at", 10)]) (tt := tYes) rfl sc_law_assigns.nd (pi_range1 (by rfl) T.n_range (pa_cons pe_int pa_nil)) (blkOk_by (N := ["_law_pool_here", "_law_rule", "_law_values", "_law_begins", "_law_ends", "_law_turn", "_law_k", "_law_value_here", "_law_due_here", "_law_other", "_law_at"]) (sc := defScope s_law_assigns) (by decide +kernel)) (fun _ _ _ _ _ => pg_name (i := 10) sc_law_assigns.nd rfl (Or.inl rfl)) (fun _ _ _ _ _ => pts_nil) (fun _ _ _ _ _ => (pe_ifExp (pt_cmpR op_eqI (pv 10) (pv 6) (nomark _)) (pv 7) (pe_ix (r := rIxL K) ix_list (pv 2) (pv 10) (fun _ _ => rfl))))))) pss_nil) (pss_cons (ps_set (i := 9) sc_law_assigns.nd rfl (dk rfl) (pe_ix (r := rIxL K) ix_list (pe_lst (pa_cons pe_str (pa_cons pe_str (pa_cons pe_str (pa_cons pe_str (pa_cons pe_str (pa_cons pe_str pa_nil))))))) (pe_call (ok_law_take T) (hr.mono (by decide)) (by rfl) T.g_law_take T.F_law_take.kp (bn_law_take T) .nil pass0 (pa_cons (pv 0) (pa_cons pe_int pa_nil))) (fun _ _ => rfl))) (pss_one (ps_if (PW.pt (pw_or (pt_cmpR (r := rNeD K) (op_neD hr.units) (pe_call (ok_law_assigned T) (hr.mono (by decide)) (by rfl) T.g_law_assigned T.F_law_assigned.kp (bn_law_assigned T) .nil pass0 (pa_cons (pv 1) (pa_cons (pv 9) (pa_cons (pv 7) pa_nil)))) pe_str (nomark _)) (pw_or1 (pt_not (pt_val (pe_call (ok_law_tells T) (hr.mono (by decide)) (by rfl) T.g_law_tells T.F_law_tells.kp (bn_law_tells T) .nil pass0 (pa_cons (pv 1) (pa_cons (pv 2) (pa_cons (pv 3) (pa_cons (pv 4) pa_nil)))))))))) (pss_one (ps_ret pe_non)) pss_nil))))))))) (pss_one (ps_ret (pv 2))))), ?_⟩
    have S : Sx (fun a => a = p__law_rule ∨ a = p__law_pool_here) F0 H0 F0 H0 := Sx.refl hE (by
        rintro a (rfl | rfl)
        · rw [w__law_rule.at_]; exact (fun h => nomatch h)
        · rw [w__law_pool_here.at_]; exact (fun h => nomatch h))
    unfold m_law_assigns at hm
    obtain ⟨g1, hm⟩ := gd_some hm
    refine rd_seq ?_
    refine rd_for ?_
    refine rd_iR1 ?_
    refine rd_cons ?_
    refine rd_c ?_
    refine rd_nil ?_
    refine rd_r1 g1 ?_
    obtain ⟨t2, e3, hm⟩ := bd_some hm
    refine rd_forC feedsRg (typedR (K := K) (F := F0)) e3 (fun (s4 : ((Int × Int) × (List (Str × Th)) × (List Th))) σ H => ∃ (F : Hp) (x2 : V) (o5 : Option V) (o6 : Option V) (o7 : Option V) (o8 : Option V) (o9 : Option V) (o10 : Option V) (u1_2 : V), σ = [some (V.ref p__law_pool_here), some (V.ref p__law_rule), some x2, some v__law_begins, some v__law_ends, o5, o6, o7, o8, o9, o10] ∧ Sx (fun a => a = p__law_pool_here ∨ a = p__law_rule) F0 H0 F H ∧ (qL qTh).r K F x2 s4.2.2 ∧ Ow (fun a => a = p__law_pool_here ∨ a = p__law_rule) H0 F H p__law_rule (.ins (He.ga K "Rule") dx [("openers", u_openers), ("closers", u_closers), ("settings", u1_2)]) ∧ qSd.r K F u1_2 s4.2.1 ∧ Ow (fun a => a = p__law_pool_here ∨ a = p__law_rule) H0 F H p__law_pool_here (.lst [V.int s4.1.1, V.int s4.1.2])) ?_ ?_ ?_ ?_
    · intro _ _ _ _; trivial
    · skip
      have S6 : Sx (fun a => a = p__law_pool_here ∨ a = p__law_rule) _ _ _ _ := Sx.refl S.sub (by
          rintro a (rfl | rfl)
          · rw [w__law_pool_here.at_]; exact (fun h => nomatch h)
          · rw [w__law_rule.at_]; exact (fun h => nomatch h))
      have w7 : Ow (fun a => a = p__law_pool_here ∨ a = p__law_rule) H0 _ _ _ _ := ⟨w__law_pool_here.fr, w__law_pool_here.at_, .inr (Or.inl rfl)⟩
      have w8 : Ow (fun a => a = p__law_pool_here ∨ a = p__law_rule) H0 _ _ _ _ := ⟨w__law_rule.fr, w__law_rule.at_, .inr (Or.inr (rfl))⟩
      exact ⟨F0, _, _, _, _, _, _, _, _, rfl, S6, f__law_values, w8, f_settings, w7⟩
    · skip
      rintro x9 v10 s11 c15 σ12 H13 f14 ⟨F16, x18, o19, o20, o21, o22, o23, o24, u25, rfl, S17, f26, r27, r28, w29⟩ hm32 hbk30 hrt31
      have f__law_begins := (qL qS).mono S17.le f__law_begins
      have f__law_ends := (qL qS).mono S17.le f__law_ends
      have f_openers := (qL qPat).mono S17.le f_openers
      have f_closers := (qL qPat).mono S17.le f_closers
      unfold m_law_assigns_b2 at hm32
      cases (show v10 = (V.int (x9)) from f14)
      obtain ⟨t33, e34, hm32⟩ := bd_some hm32
      refine rd_gn ?_
      refine rd_seq ?_
      refine rd_asg ?_
      refine rd_call ?_
      refine rd_cons ?_
      refine rd_v rfl ?_
      refine rd_cons ?_
      refine rd_c ?_
      refine rd_nil ?_
      refine ⟨F16, _, _, _, t33, rfl, S17.sub, w29.arg, e34, fun v38 F35 H36 c37 w40 f39 => ?_⟩
      have S41 := S17.call1 c37 w29
      have f26 := (qL qTh).mono c37.le f26
      have f__law_begins := (qL qS).mono c37.le f__law_begins
      have f__law_ends := (qL qS).mono c37.le f__law_ends
      have f_openers := (qL qPat).mono c37.le f_openers
      have f_closers := (qL qPat).mono c37.le f_closers
      have r28 := qSd.mono c37.le r28
      have r27 := r27.call c37 (by intro z; exact nn_p__law_rule_p__law_pool_here z)
      have w42 := w29.back w40
      cases (show v38 = (V.int (t33.1)) from f39)
      obtain ⟨t43, e44, hm32⟩ := bd_some hm32
      refine rd_gn ?_
      refine rd_seq ?_
      refine rd_asg ?_
      refine rd_call ?_
      refine rd_cons ?_
      refine rd_v rfl ?_
      refine rd_cons ?_
      refine rd_v rfl ?_
      refine rd_nil ?_
      refine ⟨F35, _, _, _, t43, rfl, S41.sub, w42.arg, e44, fun v48 F45 H46 c47 w50 f49 => ?_⟩
      have S51 := S41.call1 c47 w42
      have f26 := (qL qTh).mono c47.le f26
      have f__law_begins := (qL qS).mono c47.le f__law_begins
      have f__law_ends := (qL qS).mono c47.le f__law_ends
      have f_openers := (qL qPat).mono c47.le f_openers
      have f_closers := (qL qPat).mono c47.le f_closers
      have r28 := qSd.mono c47.le r28
      have r27 := r27.call c47 (by intro z; exact nn_p__law_rule_p__law_pool_here z)
      have w52 := w42.back w50
      refine rd_gn ?_
      refine rd_seq ?_
      refine rd_asg ?_
      refine rd_call ?_
      refine rd_cons ?_
      refine rd_op ?_
      refine rd_lst ?_
      refine rd_cons ?_
      refine rd_v rfl ?_
      refine rd_nil ?_
      refine rd_lK rfl ?_
      refine alL (K := K) (A := qTh) (xs := [t43.1]) S51 (.cons f49 .nil) (fun v53 F54 H55 c56 f57 => ?_)
      have S58 := S51.call0 c56
      have f26 := (qL qTh).mono c56.le f26
      have f__law_begins := (qL qS).mono c56.le f__law_begins
      have f__law_ends := (qL qS).mono c56.le f__law_ends
      have f49 := qTh.mono c56.le f49
      have f_openers := (qL qPat).mono c56.le f_openers
      have f_closers := (qL qPat).mono c56.le f_closers
      have r28 := qSd.mono c56.le r28
      have w52 := w52.call0 c56
      have r27 := r27.call0 c56
      obtain ⟨g59, hm32⟩ := gd_some hm32
      refine rd_c ?_
      refine rd_repL (S58.l f57) g59 ?_
      refine alL' S58 (fun v60 F61 H62 c63 f64 => ?_)
      have S65 := S58.call0 c63
      have f26 := (qL qTh).mono c63.le f26
      have f__law_begins := (qL qS).mono c63.le f__law_begins
      have f__law_ends := (qL qS).mono c63.le f__law_ends
      have f49 := qTh.mono c63.le f49
      have f_openers := (qL qPat).mono c63.le f_openers
      have f_closers := (qL qPat).mono c63.le f_closers
      have r28 := qSd.mono c63.le r28
      have w52 := w52.call0 c63
      have r27 := r27.call0 c63
      refine rd_cons ?_
      refine rd_lst ?_
      refine rd_cons ?_
      refine rd_v rfl ?_
      refine rd_nil ?_
      refine rd_lK rfl ?_
      refine alL (K := K) (A := qI) (xs := ([t33.1] : List Int)) S65 (.cons rfl .nil) (fun v66 F67 H68 c69 f70 => ?_)
      have S71 := S65.call0 c69
      have f26 := (qL qTh).mono c69.le f26
      have f__law_begins := (qL qS).mono c69.le f__law_begins
      have f__law_ends := (qL qS).mono c69.le f__law_ends
      have f49 := qTh.mono c69.le f49
      have f64 := (qL qTh).mono c69.le f64
      have f_openers := (qL qPat).mono c69.le f_openers
      have f_closers := (qL qPat).mono c69.le f_closers
      have r28 := qSd.mono c69.le r28
      have w52 := w52.call0 c69
      have r27 := r27.call0 c69
      obtain ⟨t72, e73, hm32⟩ := bd_some hm32
      refine rd_nil ?_
      refine ⟨F67, _, _, _, _, t72, rfl, S71.sub, f64, f70, e73, fun v77 F74 H75 c76 f78 => ?_⟩
      have S79 := S71.call0 c76
      have f26 := (qL qTh).mono c76.le f26
      have f__law_begins := (qL qS).mono c76.le f__law_begins
      have f__law_ends := (qL qS).mono c76.le f__law_ends
      have f49 := qTh.mono c76.le f49
      have f_openers := (qL qPat).mono c76.le f_openers
      have f_closers := (qL qPat).mono c76.le f_closers
      have r28 := qSd.mono c76.le r28
      have w52 := w52.call0 c76
      have r27 := r27.call0 c76
      obtain ⟨t80, e81, hm32⟩ := bd_some hm32
      refine rd_gn ?_
      refine rd_seq ?_
      refine rd_ifS ?_
      refine rd_test ?_
      refine rd_op ?_
      refine rd_call ?_
      refine rd_cons ?_
      refine rd_v rfl ?_
      refine rd_cons ?_
      refine rd_op ?_
      refine rd_call ?_
      refine rd_nil ?_
      refine ⟨F74, t80, rfl, S79.sub, e81, fun v85 F82 H83 c84 f86 => ?_⟩
      have S87 := S79.call0 c84
      have f26 := (qL qTh).mono c84.le f26
      have f__law_begins := (qL qS).mono c84.le f__law_begins
      have f__law_ends := (qL qS).mono c84.le f__law_ends
      have f49 := qTh.mono c84.le f49
      have f78 := (qO qS).mono c84.le f78
      have f_openers := (qL qPat).mono c84.le f_openers
      have f_closers := (qL qPat).mono c84.le f_closers
      have r28 := qSd.mono c84.le r28
      have w52 := w52.call0 c84
      have r27 := r27.call0 c84
      obtain ⟨t88, e89, hm32⟩ := bd_some hm32
      refine rd_v rfl ?_
      refine rd_ixL (S87.l f86).r e89 (fun u90 f91 => ?_)
      cases (show u90 = (V.str (t88)) from f91)
      obtain ⟨t92, e93, hm32⟩ := bd_some hm32
      refine rd_cons ?_
      refine rd_v rfl ?_
      refine rd_nil ?_
      refine ⟨F82, _, _, _, _, _, ((a__law_rule.1, a__law_rule.2.1, s11.2.1)), _, _, _, t92, rfl, S87.sub, ⟨r27.fr, r27.at_, .inr (rfl)⟩, f_openers, f_closers, r28, f49, e93, fun v97 F94 H95 u100 c96 w99 f101 f98 => ?_⟩
      have S102 := S87.call1 c96 r27
      have f26 := (qL qTh).mono c96.le f26
      have f__law_begins := (qL qS).mono c96.le f__law_begins
      have f__law_ends := (qL qS).mono c96.le f__law_ends
      have f49 := qTh.mono c96.le f49
      have f78 := (qO qS).mono c96.le f78
      have f_openers := (qL qPat).mono c96.le f_openers
      have f_closers := (qL qPat).mono c96.le f_closers
      have r28 := qSd.mono c96.le r28
      have w52 := w52.call c96 (Ne.symm nn_p__law_rule_p__law_pool_here)
      have w103 : Ow (fun a => a = p__law_pool_here ∨ a = p__law_rule) H0 _ _ _ _ := ⟨w99.fr, w99.at_, r27.mine⟩
      obtain ⟨g104, hm32⟩ := gd_some hm32
      obtain ⟨g105, hm32⟩ := gd_some hm32
      refine rd_v rfl ?_
      refine rd_neD (D := (dO dS)) (S102.d (dO dS) f98) (S102.d (dO dS) f78) g104 g105 ?_
      refine rd_b ?_
      refine if_b hm32 (fun b106 hm32 => ?_) (fun b106 hm32 => ?_)
      · skip
        have f107 : (qO (qL qTh)).r K F94 V.non none := (show (qO (qL qTh)).r K F94 V.non none from rfl)
        cases hm32
        have e108 := hrt31 _ rfl
        subst e108
        have hm := aft_rt hm
        have S109 := S.call S102 (by
            rintro a (rfl | rfl)
            · exact w__law_pool_here.mine.symm
            · exact w__law_rule.mine.symm)
        have w110 : Ow (fun a => a = p__law_rule ∨ a = p__law_pool_here) H0 _ _ _ _ := ⟨w52.fr, w52.at_, w__law_pool_here.mine⟩
        have w111 : Ow (fun a => a = p__law_rule ∨ a = p__law_pool_here) H0 _ _ _ _ := ⟨w103.fr, w103.at_, w__law_rule.mine⟩
        cases hm
        refine rd_ret ?_
        refine rd_c ?_
        exact hQ _ _ _ _ S109 w111 f101 w110 f107
      · skip
        obtain ⟨t112, e113, hm32⟩ := bd_some hm32
        refine rd_next ?_
        refine rd_cut (fun σ' H' => ∃ (F : Hp) (x0 : V) (o9 : Option V) (o10 : Option V), σ' = [some (V.ref p__law_pool_here), some (V.ref p__law_rule), some x0, some v__law_begins, some v__law_ends, some (V.int (x9)), some (V.int (t33.1)), some v48, some v77, o9, o10] ∧ Sx P0 F94 H95 F H' ∧ (qL qTh).r K F x0 t112) ?_ ?_
        · skip
          have S114 := Sx.refl0 S102.sub
          refine rd_ifS ?_
          refine rd_test ?_
          refine rd_op ?_
          refine rd_v rfl ?_
          refine rd_c ?_
          refine rd_isN (A := qS) f78 ?_
          refine rd_b ?_
          refine if_b e113 (fun b115 e113 => ?_) (fun b115 e113 => ?_)
          · skip
            obtain ⟨g116, e113⟩ := gd_some e113
            refine rd_asg ?_
            refine rd_lc ?_
            refine rd_iR1 ?_
            refine rd_cons ?_
            refine rd_c ?_
            refine rd_nil ?_
            refine rd_r1 g116 ?_
            obtain ⟨g117, e113⟩ := gd_some e113
            obtain ⟨t118, e119, e113⟩ := bd_some e113
            refine rd_comp (B := qTh) feedsRg (typedR (K := K) (F := F94)) e119 g117 (Pc := P0) (fun _ z => z.elim) S114.sub (fun (s120 : Unit) F H => True) ?_ ?_ ?_ ?_ ?_ ?_
            · intro _ _ _ _ _; trivial
            · trivial
            · intros; trivial
            · intros; trivial
            · skip
              intro x122 v123 s124 o125 F126 H127 d128 acc129 f130 S131 w132 w133 n134 hm135 E136 N137 hN138 hE139
              have f26 := (qL qTh).mono S131.le f26
              have f__law_begins := (qL qS).mono S131.le f__law_begins
              have f__law_ends := (qL qS).mono S131.le f__law_ends
              have f49 := qTh.mono S131.le f49
              have f78 := (qO qS).mono S131.le f78
              have f_openers := (qL qPat).mono S131.le f_openers
              have f_closers := (qL qPat).mono S131.le f_closers
              have f101 := qSd.mono S131.le f101
              have w52 := w52.call0 S131
              have w103 := w103.call0 S131
              have S140 := Sx.refl0 S131.sub
              unfold m_law_assigns_b1 at hm135
              cases (show v123 = (V.int (x122)) from f130)
              obtain ⟨t141, e142, hm135⟩ := bd_some hm135
              refine rd_gn ?_
              refine rd_wp rfl ?_
              refine rd_yes ?_
              refine if_tt ?_
              refine rd_ifE ?_
              refine rd_test ?_
              refine rd_op ?_
              refine rd_v rfl ?_
              refine rd_v rfl ?_
              refine rd_I0 ?_
              refine rd_b ?_
              refine ifE_j (fun c H' => ∃ F', qTh.r K F' c t141 ∧ Sx P0 F126 H127 F' H') ?_ ?_ ?_
              · intro b143 Q144 q145
                have hm146 := if_t e142 b143
                have S147 := Sx.refl0 S140.sub
                cases hm146
                refine rd_v rfl ?_
                exact q145 _ _ ⟨F126, f49, S147⟩
              · intro b148 Q149 q150
                have hm151 := if_f e142 b148
                have S152 := Sx.refl0 S140.sub
                obtain ⟨t153, e154, hm151⟩ := bd_some hm151
                refine rd_op ?_
                refine rd_v rfl ?_
                refine rd_v rfl ?_
                refine rd_ixL (S152.l f26).r e154 (fun u155 f156 => ?_)
                cases hm151
                exact q150 _ _ ⟨F126, f156, S152⟩
              rintro v160 H158 ⟨F157, f161, c159⟩
              have S162 := S140.call0 c159
              have f26 := (qL qTh).mono c159.le f26
              have f__law_begins := (qL qS).mono c159.le f__law_begins
              have f__law_ends := (qL qS).mono c159.le f__law_ends
              have f49 := qTh.mono c159.le f49
              have f78 := (qO qS).mono c159.le f78
              have f_openers := (qL qPat).mono c159.le f_openers
              have f_closers := (qL qPat).mono c159.le f_closers
              have f101 := qSd.mono c159.le f101
              have w52 := w52.call0 c159
              have w103 := w103.call0 c159
              cases hm135
              exact hN138 _ _ _ _ rfl S162 f161 trivial
            intro p163 us164 F165 H166 n167 c168 w169 w170 r171
            have z172 := S114.free0 n167
            have ne173 : p__law_pool_here ≠ p163 := w52.ne n167
            have ne174 : p__law_rule ≠ p163 := w103.ne n167
            have S175 := S114.call0 c168
            have f26 := (qL qTh).mono c168.le f26
            have f__law_begins := (qL qS).mono c168.le f__law_begins
            have f__law_ends := (qL qS).mono c168.le f__law_ends
            have f49 := qTh.mono c168.le f49
            have f78 := (qO qS).mono c168.le f78
            have f_openers := (qL qPat).mono c168.le f_openers
            have f_closers := (qL qPat).mono c168.le f_closers
            have f101 := qSd.mono c168.le f101
            have w52 := w52.call0 c168
            have w103 := w103.call0 c168
            have w176 : Ow P0 H95 _ _ _ _ := ⟨w170.fr, w170.at_, .inl z172⟩
            obtain ⟨F177, S178, le179, f180, _, eq181⟩ := fz S175 w176 z172 r171
            have f26 := (qL qTh).mono le179 f26
            have f__law_begins := (qL qS).mono le179 f__law_begins
            have f__law_ends := (qL qS).mono le179 f__law_ends
            have f49 := qTh.mono le179 f49
            have f78 := (qO qS).mono le179 f78
            have f_openers := (qL qPat).mono le179 f_openers
            have f_closers := (qL qPat).mono le179 f_closers
            have f101 := qSd.mono le179 f101
            have w52 := w52.fzO ne173 eq181
            have w103 := w103.fzO ne174 eq181
            cases e113
            refine rd_gn ?_
            exact ⟨F177, _, _, _, rfl, S178, f180⟩
          · skip
            cases e113
            refine rd_next ?_
            exact ⟨F94, _, _, _, rfl, S114, f26⟩
        · skip
          rintro σ183 H182 ⟨F184, x186, o187, o188, rfl, S185, f189⟩
          have S190 := S102.call0 S185
          have f__law_begins := (qL qS).mono S185.le f__law_begins
          have f__law_ends := (qL qS).mono S185.le f__law_ends
          have f49 := qTh.mono S185.le f49
          have f78 := (qO qS).mono S185.le f78
          have f_openers := (qL qPat).mono S185.le f_openers
          have f_closers := (qL qPat).mono S185.le f_closers
          have f101 := qSd.mono S185.le f101
          have w52 := w52.call0 S185
          have w103 := w103.call0 S185
          refine rd_seq ?_
          refine rd_asg ?_
          refine rd_op ?_
          refine rd_lst ?_
          refine rd_cons ?_
          refine rd_c ?_
          refine rd_cons ?_
          refine rd_c ?_
          refine rd_cons ?_
          refine rd_c ?_
          refine rd_cons ?_
          refine rd_c ?_
          refine rd_cons ?_
          refine rd_c ?_
          refine rd_cons ?_
          refine rd_c ?_
          refine rd_nil ?_
          refine rd_lK rfl ?_
          refine alL (K := K) (A := qS) (xs := [("" : Str), ("Most" : Str), ("marks" : Str), ("begins" : Str), ("change" : Str), ("name" : Str)]) S190 (.cons rfl (.cons rfl (.cons rfl (.cons rfl (.cons rfl (.cons rfl .nil)))))) (fun v191 F192 H193 c194 f195 => ?_)
          have S196 := S190.call0 c194
          have f189 := (qL qTh).mono c194.le f189
          have f__law_begins := (qL qS).mono c194.le f__law_begins
          have f__law_ends := (qL qS).mono c194.le f__law_ends
          have f49 := qTh.mono c194.le f49
          have f78 := (qO qS).mono c194.le f78
          have f_openers := (qL qPat).mono c194.le f_openers
          have f_closers := (qL qPat).mono c194.le f_closers
          have f101 := qSd.mono c194.le f101
          have w52 := w52.call0 c194
          have w103 := w103.call0 c194
          obtain ⟨t197, e198, hm32⟩ := bd_some hm32
          refine rd_call ?_
          refine rd_cons ?_
          refine rd_v rfl ?_
          refine rd_cons ?_
          refine rd_c ?_
          refine rd_nil ?_
          refine ⟨F192, _, _, _, t197, rfl, S196.sub, w52.arg, e198, fun v202 F199 H200 c201 w204 f203 => ?_⟩
          have S205 := S196.call1 c201 w52
          have f189 := (qL qTh).mono c201.le f189
          have f__law_begins := (qL qS).mono c201.le f__law_begins
          have f__law_ends := (qL qS).mono c201.le f__law_ends
          have f49 := qTh.mono c201.le f49
          have f78 := (qO qS).mono c201.le f78
          have f195 := (qL qS).mono c201.le f195
          have f_openers := (qL qPat).mono c201.le f_openers
          have f_closers := (qL qPat).mono c201.le f_closers
          have f101 := qSd.mono c201.le f101
          have w103 := w103.call c201 (by intro z; exact nn_p__law_rule_p__law_pool_here z)
          have w206 := w52.back w204
          cases (show v202 = (V.int (t197.1)) from f203)
          obtain ⟨t207, e208, hm32⟩ := bd_some hm32
          refine rd_ixL (S205.l f195).r e208 (fun u209 f210 => ?_)
          cases (show u209 = (V.str (t207)) from f210)
          obtain ⟨t211, e212, hm32⟩ := bd_some hm32
          refine rd_gn ?_
          refine rd_ifS ?_
          refine rd_or ?_
          refine rd_test ?_
          refine rd_op ?_
          refine rd_call ?_
          refine rd_cons ?_
          refine rd_v rfl ?_
          refine rd_cons ?_
          refine rd_v rfl ?_
          refine rd_cons ?_
          refine rd_v rfl ?_
          refine rd_nil ?_
          refine ⟨F199, _, _, _, _, _, ((a__law_rule.1, a__law_rule.2.1, t92.2)), _, _, _, t211, rfl, S205.sub, ⟨w103.fr, w103.at_, .inr (rfl)⟩, f_openers, f_closers, f101, f49, e212, fun v216 F213 H214 u219 c215 w218 f220 f217 => ?_⟩
          have S221 := S205.call1 c215 w103
          have f189 := (qL qTh).mono c215.le f189
          have f__law_begins := (qL qS).mono c215.le f__law_begins
          have f__law_ends := (qL qS).mono c215.le f__law_ends
          have f49 := qTh.mono c215.le f49
          have f78 := (qO qS).mono c215.le f78
          have f_openers := (qL qPat).mono c215.le f_openers
          have f_closers := (qL qPat).mono c215.le f_closers
          have f101 := qSd.mono c215.le f101
          have w206 := w206.call c215 (Ne.symm nn_p__law_rule_p__law_pool_here)
          have w222 : Ow (fun a => a = p__law_pool_here ∨ a = p__law_rule) H0 _ _ _ _ := ⟨w218.fr, w218.at_, w103.mine⟩
          have f223 : (qO qS).r K F213 (V.str (("name" : Str))) (some ("name" : Str)) := (show (qO qS).r K F213 (V.str (("name" : Str))) (some ("name" : Str)) from rfl)
          obtain ⟨g224, hm32⟩ := gd_some hm32
          obtain ⟨g225, hm32⟩ := gd_some hm32
          obtain ⟨t234, e235, hm32⟩ := bd_some hm32
          refine rd_c ?_
          refine rd_neD (D := (dO dS)) (S221.d (dO dS) f217) (S221.d (dO dS) f223) g224 g225 ?_
          refine rd_b ?_
          refine or_j (fun c H' => c = t234 ∧ ∃ F', Sx P0 F213 H214 F' H') ?_ ?_ ?_
          · intro b236 Q237 q238
            have e235 := if_f e235 b236
            have S239 := Sx.refl0 S221.sub
            obtain ⟨t240, e241, e235⟩ := bd_some e235
            refine rd_not ?_
            refine rd_tB ?_
            refine rd_call ?_
            refine rd_cons ?_
            refine rd_v rfl ?_
            refine rd_cons ?_
            refine rd_v rfl ?_
            refine rd_cons ?_
            refine rd_v rfl ?_
            refine rd_cons ?_
            refine rd_v rfl ?_
            refine rd_nil ?_
            refine ⟨F213, _, _, _, _, _, ((a__law_rule.1, a__law_rule.2.1, t211.2)), _, _, _, _, _, _, t240, rfl, S239.sub, ⟨w222.fr, w222.at_, .inr (rfl)⟩, f_openers, f_closers, f220, f189, f__law_begins, f__law_ends, e241, fun v245 F242 H243 c244 f246 => ?_⟩
            have S247 := S239.call0 c244
            have f189 := (qL qTh).mono c244.le f189
            have f__law_begins := (qL qS).mono c244.le f__law_begins
            have f__law_ends := (qL qS).mono c244.le f__law_ends
            have f49 := qTh.mono c244.le f49
            have f78 := (qO qS).mono c244.le f78
            have f_openers := (qL qPat).mono c244.le f_openers
            have f_closers := (qL qPat).mono c244.le f_closers
            have f220 := qSd.mono c244.le f220
            have w206 := w206.call0 c244
            have w222 := w222.call0 c244
            cases (show v245 = (V.bl (t240)) from f246)
            cases e235
            refine rd_b ?_
            exact q238 _ _ ⟨rfl, F242, S247⟩
          · intro b236
            have e235 := if_t e235 b236
            cases e235
            have S248 := Sx.refl0 S221.sub
            exact ⟨rfl, F213, S248⟩
          rintro b252 H250 ⟨rfl, F249, c251⟩
          have S253 := S221.call0 c251
          have f189 := (qL qTh).mono c251.le f189
          have f__law_begins := (qL qS).mono c251.le f__law_begins
          have f__law_ends := (qL qS).mono c251.le f__law_ends
          have f49 := qTh.mono c251.le f49
          have f78 := (qO qS).mono c251.le f78
          have f_openers := (qL qPat).mono c251.le f_openers
          have f_closers := (qL qPat).mono c251.le f_closers
          have f220 := qSd.mono c251.le f220
          have w206 := w206.call0 c251
          have w222 := w222.call0 c251
          refine if_b hm32 (fun b254 hm32 => ?_) (fun b254 hm32 => ?_)
          · skip
            have f255 : (qO (qL qTh)).r K F249 V.non none := (show (qO (qL qTh)).r K F249 V.non none from rfl)
            cases hm32
            have e256 := hrt31 _ rfl
            subst e256
            have hm := aft_rt hm
            have S257 := S.call S253 (by
                rintro a (rfl | rfl)
                · exact w__law_pool_here.mine.symm
                · exact w__law_rule.mine.symm)
            have w258 : Ow (fun a => a = p__law_rule ∨ a = p__law_pool_here) H0 _ _ _ _ := ⟨w206.fr, w206.at_, w__law_pool_here.mine⟩
            have w259 : Ow (fun a => a = p__law_rule ∨ a = p__law_pool_here) H0 _ _ _ _ := ⟨w222.fr, w222.at_, w__law_rule.mine⟩
            cases hm
            refine rd_ret ?_
            refine rd_c ?_
            exact hQ _ _ _ _ S257 w259 f220 w258 f255
          · skip
            cases hm32
            refine rd_next ?_
            exact ⟨_, rfl, ⟨F249, _, _, _, _, _, _, _, _, rfl, S253, f189, w222, f220, w206⟩⟩
    · skip
      rintro s262 σ260 H261 e263 ⟨F264, x266, o267, o268, o269, o270, o271, o272, u273, rfl, S265, f274, r275, r276, w277⟩
      subst e263
      have hm := aft_nx hm
      have S278 := S.call S265 (by
          rintro a (rfl | rfl)
          · exact w__law_pool_here.mine.symm
          · exact w__law_rule.mine.symm)
      have f__law_begins := (qL qS).mono S265.le f__law_begins
      have f__law_ends := (qL qS).mono S265.le f__law_ends
      have f_openers := (qL qPat).mono S265.le f_openers
      have f_closers := (qL qPat).mono S265.le f_closers
      have f_settings := qSd.mono S265.le f_settings
      have w279 : Ow (fun a => a = p__law_rule ∨ a = p__law_pool_here) H0 _ _ _ _ := ⟨w277.fr, w277.at_, w__law_pool_here.mine⟩
      have w280 : Ow (fun a => a = p__law_rule ∨ a = p__law_pool_here) H0 _ _ _ _ := ⟨r275.fr, r275.at_, w__law_rule.mine⟩
      have f281 : (qO (qL qTh)).r K F264 x266 (some s262.2.2) := (show (qO (qL qTh)).r K F264 x266 (some s262.2.2) from f274)
      cases hm
      refine rd_ret ?_
      refine rd_v rfl ?_
      exact hQ _ _ _ _ S278 w280 r276 w279 f281
def sp_law_change (K : PySem.W.Frag) : Sp := fun vs H Q _ => ∃ (F : Hp) (p__law_rule : Addr) (dx : Addr) (u_openers : V) (u_closers : V) (u_settings : V) (a__law_rule : ((List Pat) × (List Pat) × (List (Str × Th)))) (v__law_values : V) (a__law_values : (List Th)) (v__law_asked : V) (a__law_asked : (List Int)) (r : ((Option Str) × (List (Str × Th)))), vs = [.ref p__law_rule, v__law_values, v__law_asked] ∧ Same F H ∧ Ow (fun a => a = p__law_rule) H F H p__law_rule (.ins (He.ga K "Rule") dx [("openers", u_openers), ("closers", u_closers), ("settings", u_settings)]) ∧ (qL qPat).r K F u_openers a__law_rule.1 ∧ (qL qPat).r K F u_closers a__law_rule.2.1 ∧ qSd.r K F u_settings a__law_rule.2.2 ∧ (qL qTh).r K F v__law_values a__law_values ∧ (qL qI).r K F v__law_asked a__law_asked ∧ m_law_change a__law_rule a__law_values a__law_asked = some r ∧ ∀ (v : V) (F' H' : Hp) (u'_settings : V), Sx (fun a => a = p__law_rule) F H F' H' → Ow (fun a => a = p__law_rule) H F' H' p__law_rule (.ins (He.ga K "Rule") dx [("openers", u_openers), ("closers", u_closers), ("settings", u'_settings)]) → qSd.r K F' u'_settings r.2 → (qO qS).r K F' v r.1 → Q v H'
theorem sc_law_change : FnScope ["_law_rule", "_law_values", "_law_asked", "e"] ["_law_rule", "_law_values", "_law_asked"] (defScope s_law_change) := ⟨rfl, rfl, rfl, by decide +kernel, rfl, by decide +kernel, by decide +kernel⟩
theorem bn_law_change (T : Tx P K mg) : Binds K (fdOf K ("_law_change", none)) ["_law_rule", "_law_values", "_law_asked"] [] := FunD.bindsN T.F_law_change fun _ _ _ _ _ _ us hl => match us, hl with | [_, _, _], _ => rfl
theorem ok_law_change (T : Tx P K mg) : FnOk P w K mg base CX0 5 (He.ga K "_law_change") (fdOf K ("_law_change", none)) ["_law_rule", "_law_values", "_law_asked"] (sp_law_change K) := by
  refine FunD.ok T.F_law_change sc_law_change (fun vs H0 Q E h => ?_) (fun cdv A outer s H0 vs Q E hr h => ?_)
  · obtain ⟨_, _, _, _, _, _, _, _, _, _, _, _, rfl, _⟩ := h
    rfl
  · obtain ⟨F0, p__law_rule, dx, u_openers, u_closers, u_settings, a__law_rule, v__law_values, a__law_values, v__law_asked, a__law_asked, r, rfl, hE, w__law_rule, f_openers, f_closers, f_settings, f__law_values, f__law_asked, hm, hQ⟩ := h
    refine ⟨_, PSs.nox ((pss_cons (ps_tryK (i := 3) rfl rfl sc_law_change.nd rfl rfl ⟨by rfl, by decide, .inl T.gx_NoRule⟩ takesF (fun W pn xe tk own => (pss_one (ps_if (pt_cmpR (r := rEqD K) (op_eqD hr.units) (pv 2) (pe_lst (pa_cons pe_int pa_nil)) (nomark _)) (pss_one (ps_expr (pe_methNS (pv 0) T.c_Rule T.me_Rule_change (ok_Rule_change_vx T (ks := (["most"] : List Str)) (by decide) (by decide) (fun kV doc pm an cdv ct u xs hl => match xs, hl with | [_], _ => by unfold BindN; rfl)) (hr.mono (by decide)) (fun σ => passAt tk σ) (pk_cons (pe_ix (r := rIxL K) ix_list (pv 1) pe_int (fun _ _ => rfl)) pk_nil)))) (pss_one (ps_if (pt_cmpR (r := rEqD K) (op_eqD hr.units) (pv 2) (pe_lst (pa_cons pe_int pa_nil)) (nomark _)) (pss_one (ps_expr (pe_methNS (pv 0) T.c_Rule T.me_Rule_change (ok_Rule_change_vx T (ks := (["alone"] : List Str)) (by decide) (by decide) (fun kV doc pm an cdv ct u xs hl => match xs, hl with | [_], _ => by unfold BindN; rfl)) (hr.mono (by decide)) (fun σ => passAt tk σ) (pk_cons (pe_ix (r := rIxL K) ix_list (pv 1) pe_int (fun _ _ => rfl)) pk_nil)))) (pss_one (ps_if (pt_cmpR (r := rEqD K) (op_eqD hr.units) (pv 2) (pe_lst (pa_cons pe_int pa_nil)) (nomark _)) (pss_one (ps_expr (pe_methNS (pv 0) T.c_Rule T.me_Rule_change (ok_Rule_change_vx T (ks := (["tags"] : List Str)) (by decide) (by decide) (fun kV doc pm an cdv ct u xs hl => match xs, hl with | [_], _ => by unfold BindN; rfl)) (hr.mono (by decide)) (fun σ => passAt tk σ) (pk_cons (pe_ix (r := rIxL K) ix_list (pv 1) pe_int (fun _ _ => rfl)) pk_nil)))) (pss_one (ps_if (pt_cmpR (r := rEqD K) (op_eqD hr.units) (pv 2) (pe_lst (pa_cons pe_int pa_nil)) (nomark _)) (pss_one (ps_expr (pe_methNS (pv 0) T.c_Rule T.me_Rule_change (ok_Rule_change_vx T (ks := (["quiet"] : List Str)) (by decide) (by decide) (fun kV doc pm an cdv ct u xs hl => match xs, hl with | [_], _ => by unfold BindN; rfl)) (hr.mono (by decide)) (fun σ => passAt tk σ) (pk_cons (pe_ix (r := rIxL K) ix_list (pv 1) pe_int (fun _ _ => rfl)) pk_nil)))) (pss_one (ps_if (pt_cmpR (r := rEqD K) (op_eqD hr.units) (pv 2) (pe_lst (pa_cons pe_int (pa_cons pe_int pa_nil))) (nomark _)) (pss_one (ps_expr (pe_methNS (pv 0) T.c_Rule T.me_Rule_change (ok_Rule_change_vx T (ks := (["tags", "most"] : List Str)) (by decide) (by decide) (fun kV doc pm an cdv ct u xs hl => match xs, hl with | [_, _], _ => by unfold BindN; rfl)) (hr.mono (by decide)) (fun σ => passAt tk σ) (pk_cons (pe_ix (r := rIxL K) ix_list (pv 1) pe_int (fun _ _ => rfl)) (pk_cons (pe_ix (r := rIxL K) ix_list (pv 1) pe_int (fun _ _ => rfl)) pk_nil))))) (pss_one (ps_if (pt_cmpR (r := rEqD K) (op_eqD hr.units) (pv 2) (pe_lst (pa_cons pe_int (pa_cons pe_int pa_nil))) (nomark _)) (pss_one (ps_expr (pe_methNS (pv 0) T.c_Rule T.me_Rule_change (ok_Rule_change_vx T (ks := (["quiet", "alone"] : List Str)) (by decide) (by decide) (fun kV doc pm an cdv ct u xs hl => match xs, hl with | [_, _], _ => by unfold BindN; rfl)) (hr.mono (by decide)) (fun σ => passAt tk σ) (pk_cons (pe_ix (r := rIxL K) ix_list (pv 1) pe_int (fun _ _ => rfl)) (pk_cons (pe_ix (r := rIxL K) ix_list (pv 1) pe_int (fun _ _ => rfl)) pk_nil))))) (pss_one (ps_if (pt_cmpR (r := rEqD K) (op_eqD hr.units) (pv 2) (pe_lst pa_nil) (nomark _)) (pss_one (ps_expr (pe_methNS (pv 0) T.c_Rule T.me_Rule_change (ok_Rule_change_vx T (ks := ([] : List Str)) (by decide) (by decide) (fun kV doc pm an cdv ct u xs hl => match xs, hl with | [], _ => by unfold BindN; rfl)) (hr.mono (by decide)) (fun σ => passAt tk σ) pk_nil))) (pss_one (ps_expr (pe_methNS (pv 0) T.c_Rule T.me_Rule_change (ok_Rule_change_vx T (ks := (["quiet", "tags", "alone", "most"] : List Str)) (by decide) (by decide) (fun kV doc pm an cdv ct u xs hl => match xs, hl with | [_, _, _, _], _ => by unfold BindN; rfl)) (hr.mono (by decide)) (fun σ => passAt tk σ) (pk_cons (pe_ix (r := rIxL K) ix_list (pv 1) pe_int (fun _ _ => rfl)) (pk_cons (pe_ix (r := rIxL K) ix_list (pv 1) pe_int (fun _ _ => rfl)) (pk_cons (pe_ix (r := rIxL K) ix_list (pv 1) pe_int (fun _ _ => rfl)) (pk_cons (pe_ix (r := rIxL K) ix_list (pv 1) pe_int (fun _ _ => rfl)) pk_nil)))))))))))))))))))))) (fun a oe cls d pn hz hf => (pss_one (ps_ret (pe_xf T.er_NoRule.xf (T.er_NoRule.no _ (by decide)) hz hf (pv 3)))))) (pss_one (ps_ret pe_non)))), ?_⟩
    have S : Sx (fun a => a = p__law_rule) F0 H0 F0 H0 := Sx.refl hE (by
        rintro a rfl
        · rw [w__law_rule.at_]; exact (fun h => nomatch h))
    unfold m_law_change at hm
    refine rd_seq ?_
    refine rd_try ?_
    refine rd_ifS ?_
    refine rd_test ?_
    refine rd_op ?_
    refine rd_v rfl ?_
    refine rd_lst ?_
    refine rd_cons ?_
    refine rd_c ?_
    refine rd_nil ?_
    refine rd_lK rfl ?_
    refine alL (K := K) (A := qI) (xs := ([0] : List Int)) S (.cons rfl .nil) (fun v1 F2 H3 c4 f5 => ?_)
    have S6 := S.call0 c4
    have f__law_values := (qL qTh).mono c4.le f__law_values
    have f__law_asked := (qL qI).mono c4.le f__law_asked
    have f_openers := (qL qPat).mono c4.le f_openers
    have f_closers := (qL qPat).mono c4.le f_closers
    have f_settings := qSd.mono c4.le f_settings
    have w__law_rule := w__law_rule.call0 c4
    obtain ⟨g7, hm⟩ := gd_some hm
    obtain ⟨g8, hm⟩ := gd_some hm
    refine rd_eqD (D := (dL dI)) (S6.d (dL dI) f__law_asked) (S6.d (dL dI) f5) g7 g8 ?_
    refine rd_b ?_
    refine if_b hm (fun b9 hm => ?_) (fun b9 hm => ?_)
    · skip
      obtain ⟨t10, e11, hm⟩ := bd_some hm
      refine rd_drop ?_
      refine rd_methNS ?_
      refine rd_v rfl ?_
      refine mt_at w__law_rule.at_ (by rfl) ?_
      refine rd_cons ?_
      refine rd_op ?_
      refine rd_v rfl ?_
      refine rd_c ?_
      refine rd_ixL (S6.l f__law_values).r e11 (fun u12 f13 => ?_)
      obtain ⟨t14, e15, hm⟩ := bd_some hm
      refine rd_nil ?_
      refine And.intro rfl ?_
      refine ⟨F2, _, _, _, _, _, ((a__law_rule.1, a__law_rule.2.1, a__law_rule.2.2)), _, ([t10] : List Th), t14, rfl, S6.sub, ⟨w__law_rule.fr, w__law_rule.at_, .inr (rfl)⟩, f_openers, f_closers, f_settings, rfl, (.cons f13 .nil), e15, ?_, ?_⟩
      rotate_left
      · skip
        intro x26 cls27 d28 F29 H30 ee31 c32 w34 ea33
        subst ee31
        have hm := exT_err hm
        obtain ⟨dd35, rfl, rfl, hx36⟩ := ea33
        refine rd_was T.xm_NoRule_NoRule (fun a37 na38 => ?_)
        have S39 := S6.call1 c32 w__law_rule
        have f__law_values := (qL qTh).mono c32.le f__law_values
        have f__law_asked := (qL qI).mono c32.le f__law_asked
        have f_openers := (qL qPat).mono c32.le f_openers
        have f_closers := (qL qPat).mono c32.le f_closers
        have f_settings := qSd.mono c32.le f_settings
        have w40 : Ow (fun a => a = p__law_rule) H0 _ _ _ _ := ⟨w34.fr, w34.at_, w__law_rule.mine⟩
        have f41 : (qO qS).r K F29 (V.str (x26)) (some x26) := (show (qO qS).r K F29 (V.str (x26)) (some x26) from rfl)
        cases hm
        refine rd_ret ?_
        refine rd_xf ?_
        refine rd_v rfl ?_
        refine xf_at hx36 (by rfl) ?_
        exact hQ _ _ _ _ S39 w40 f_settings f41
      intro t16 er19 v17 F20 H21 u24 c22 w23 f25 f18
      subst er19
      have hm := exT_ok hm
      have S42 := S6.call1 c22 w__law_rule
      have f__law_values := (qL qTh).mono c22.le f__law_values
      have f__law_asked := (qL qI).mono c22.le f__law_asked
      have f_openers := (qL qPat).mono c22.le f_openers
      have f_closers := (qL qPat).mono c22.le f_closers
      have f_settings := qSd.mono c22.le f_settings
      have w43 : Ow (fun a => a = p__law_rule) H0 _ _ _ _ := ⟨w23.fr, w23.at_, w__law_rule.mine⟩
      cases (show v17 = V.non from f18)
      have f44 : (qO qS).r K F20 V.non none := (show (qO qS).r K F20 V.non none from rfl)
      cases hm
      refine rd_ret ?_
      refine rd_c ?_
      exact hQ _ _ _ _ S42 w43 f25 f44
    · skip
      refine rd_ifS ?_
      refine rd_test ?_
      refine rd_op ?_
      refine rd_v rfl ?_
      refine rd_lst ?_
      refine rd_cons ?_
      refine rd_c ?_
      refine rd_nil ?_
      refine rd_lK rfl ?_
      refine alL (K := K) (A := qI) (xs := ([1] : List Int)) S6 (.cons rfl .nil) (fun v45 F46 H47 c48 f49 => ?_)
      have S50 := S6.call0 c48
      have f__law_values := (qL qTh).mono c48.le f__law_values
      have f__law_asked := (qL qI).mono c48.le f__law_asked
      have f_openers := (qL qPat).mono c48.le f_openers
      have f_closers := (qL qPat).mono c48.le f_closers
      have f_settings := qSd.mono c48.le f_settings
      have w__law_rule := w__law_rule.call0 c48
      obtain ⟨g51, hm⟩ := gd_some hm
      obtain ⟨g52, hm⟩ := gd_some hm
      refine rd_eqD (D := (dL dI)) (S50.d (dL dI) f__law_asked) (S50.d (dL dI) f49) g51 g52 ?_
      refine rd_b ?_
      refine if_b hm (fun b53 hm => ?_) (fun b53 hm => ?_)
      · skip
        obtain ⟨t54, e55, hm⟩ := bd_some hm
        refine rd_drop ?_
        refine rd_methNS ?_
        refine rd_v rfl ?_
        refine mt_at w__law_rule.at_ (by rfl) ?_
        refine rd_cons ?_
        refine rd_op ?_
        refine rd_v rfl ?_
        refine rd_c ?_
        refine rd_ixL (S50.l f__law_values).r e55 (fun u56 f57 => ?_)
        obtain ⟨t58, e59, hm⟩ := bd_some hm
        refine rd_nil ?_
        refine And.intro rfl ?_
        refine ⟨F46, _, _, _, _, _, ((a__law_rule.1, a__law_rule.2.1, a__law_rule.2.2)), _, ([t54] : List Th), t58, rfl, S50.sub, ⟨w__law_rule.fr, w__law_rule.at_, .inr (rfl)⟩, f_openers, f_closers, f_settings, rfl, (.cons f57 .nil), e59, ?_, ?_⟩
        rotate_left
        · skip
          intro x70 cls71 d72 F73 H74 ee75 c76 w78 ea77
          subst ee75
          have hm := exT_err hm
          obtain ⟨dd79, rfl, rfl, hx80⟩ := ea77
          refine rd_was T.xm_NoRule_NoRule (fun a81 na82 => ?_)
          have S83 := S50.call1 c76 w__law_rule
          have f__law_values := (qL qTh).mono c76.le f__law_values
          have f__law_asked := (qL qI).mono c76.le f__law_asked
          have f_openers := (qL qPat).mono c76.le f_openers
          have f_closers := (qL qPat).mono c76.le f_closers
          have f_settings := qSd.mono c76.le f_settings
          have w84 : Ow (fun a => a = p__law_rule) H0 _ _ _ _ := ⟨w78.fr, w78.at_, w__law_rule.mine⟩
          have f85 : (qO qS).r K F73 (V.str (x70)) (some x70) := (show (qO qS).r K F73 (V.str (x70)) (some x70) from rfl)
          cases hm
          refine rd_ret ?_
          refine rd_xf ?_
          refine rd_v rfl ?_
          refine xf_at hx80 (by rfl) ?_
          exact hQ _ _ _ _ S83 w84 f_settings f85
        intro t60 er63 v61 F64 H65 u68 c66 w67 f69 f62
        subst er63
        have hm := exT_ok hm
        have S86 := S50.call1 c66 w__law_rule
        have f__law_values := (qL qTh).mono c66.le f__law_values
        have f__law_asked := (qL qI).mono c66.le f__law_asked
        have f_openers := (qL qPat).mono c66.le f_openers
        have f_closers := (qL qPat).mono c66.le f_closers
        have f_settings := qSd.mono c66.le f_settings
        have w87 : Ow (fun a => a = p__law_rule) H0 _ _ _ _ := ⟨w67.fr, w67.at_, w__law_rule.mine⟩
        cases (show v61 = V.non from f62)
        have f88 : (qO qS).r K F64 V.non none := (show (qO qS).r K F64 V.non none from rfl)
        cases hm
        refine rd_ret ?_
        refine rd_c ?_
        exact hQ _ _ _ _ S86 w87 f69 f88
      · skip
        refine rd_ifS ?_
        refine rd_test ?_
        refine rd_op ?_
        refine rd_v rfl ?_
        refine rd_lst ?_
        refine rd_cons ?_
        refine rd_c ?_
        refine rd_nil ?_
        refine rd_lK rfl ?_
        refine alL (K := K) (A := qI) (xs := ([2] : List Int)) S50 (.cons rfl .nil) (fun v89 F90 H91 c92 f93 => ?_)
        have S94 := S50.call0 c92
        have f__law_values := (qL qTh).mono c92.le f__law_values
        have f__law_asked := (qL qI).mono c92.le f__law_asked
        have f_openers := (qL qPat).mono c92.le f_openers
        have f_closers := (qL qPat).mono c92.le f_closers
        have f_settings := qSd.mono c92.le f_settings
        have w__law_rule := w__law_rule.call0 c92
        obtain ⟨g95, hm⟩ := gd_some hm
        obtain ⟨g96, hm⟩ := gd_some hm
        refine rd_eqD (D := (dL dI)) (S94.d (dL dI) f__law_asked) (S94.d (dL dI) f93) g95 g96 ?_
        refine rd_b ?_
        refine if_b hm (fun b97 hm => ?_) (fun b97 hm => ?_)
        · skip
          obtain ⟨t98, e99, hm⟩ := bd_some hm
          refine rd_drop ?_
          refine rd_methNS ?_
          refine rd_v rfl ?_
          refine mt_at w__law_rule.at_ (by rfl) ?_
          refine rd_cons ?_
          refine rd_op ?_
          refine rd_v rfl ?_
          refine rd_c ?_
          refine rd_ixL (S94.l f__law_values).r e99 (fun u100 f101 => ?_)
          obtain ⟨t102, e103, hm⟩ := bd_some hm
          refine rd_nil ?_
          refine And.intro rfl ?_
          refine ⟨F90, _, _, _, _, _, ((a__law_rule.1, a__law_rule.2.1, a__law_rule.2.2)), _, ([t98] : List Th), t102, rfl, S94.sub, ⟨w__law_rule.fr, w__law_rule.at_, .inr (rfl)⟩, f_openers, f_closers, f_settings, rfl, (.cons f101 .nil), e103, ?_, ?_⟩
          rotate_left
          · skip
            intro x114 cls115 d116 F117 H118 ee119 c120 w122 ea121
            subst ee119
            have hm := exT_err hm
            obtain ⟨dd123, rfl, rfl, hx124⟩ := ea121
            refine rd_was T.xm_NoRule_NoRule (fun a125 na126 => ?_)
            have S127 := S94.call1 c120 w__law_rule
            have f__law_values := (qL qTh).mono c120.le f__law_values
            have f__law_asked := (qL qI).mono c120.le f__law_asked
            have f_openers := (qL qPat).mono c120.le f_openers
            have f_closers := (qL qPat).mono c120.le f_closers
            have f_settings := qSd.mono c120.le f_settings
            have w128 : Ow (fun a => a = p__law_rule) H0 _ _ _ _ := ⟨w122.fr, w122.at_, w__law_rule.mine⟩
            have f129 : (qO qS).r K F117 (V.str (x114)) (some x114) := (show (qO qS).r K F117 (V.str (x114)) (some x114) from rfl)
            cases hm
            refine rd_ret ?_
            refine rd_xf ?_
            refine rd_v rfl ?_
            refine xf_at hx124 (by rfl) ?_
            exact hQ _ _ _ _ S127 w128 f_settings f129
          intro t104 er107 v105 F108 H109 u112 c110 w111 f113 f106
          subst er107
          have hm := exT_ok hm
          have S130 := S94.call1 c110 w__law_rule
          have f__law_values := (qL qTh).mono c110.le f__law_values
          have f__law_asked := (qL qI).mono c110.le f__law_asked
          have f_openers := (qL qPat).mono c110.le f_openers
          have f_closers := (qL qPat).mono c110.le f_closers
          have f_settings := qSd.mono c110.le f_settings
          have w131 : Ow (fun a => a = p__law_rule) H0 _ _ _ _ := ⟨w111.fr, w111.at_, w__law_rule.mine⟩
          cases (show v105 = V.non from f106)
          have f132 : (qO qS).r K F108 V.non none := (show (qO qS).r K F108 V.non none from rfl)
          cases hm
          refine rd_ret ?_
          refine rd_c ?_
          exact hQ _ _ _ _ S130 w131 f113 f132
        · skip
          refine rd_ifS ?_
          refine rd_test ?_
          refine rd_op ?_
          refine rd_v rfl ?_
          refine rd_lst ?_
          refine rd_cons ?_
          refine rd_c ?_
          refine rd_nil ?_
          refine rd_lK rfl ?_
          refine alL (K := K) (A := qI) (xs := ([3] : List Int)) S94 (.cons rfl .nil) (fun v133 F134 H135 c136 f137 => ?_)
          have S138 := S94.call0 c136
          have f__law_values := (qL qTh).mono c136.le f__law_values
          have f__law_asked := (qL qI).mono c136.le f__law_asked
          have f_openers := (qL qPat).mono c136.le f_openers
          have f_closers := (qL qPat).mono c136.le f_closers
          have f_settings := qSd.mono c136.le f_settings
          have w__law_rule := w__law_rule.call0 c136
          obtain ⟨g139, hm⟩ := gd_some hm
          obtain ⟨g140, hm⟩ := gd_some hm
          refine rd_eqD (D := (dL dI)) (S138.d (dL dI) f__law_asked) (S138.d (dL dI) f137) g139 g140 ?_
          refine rd_b ?_
          refine if_b hm (fun b141 hm => ?_) (fun b141 hm => ?_)
          · skip
            obtain ⟨t142, e143, hm⟩ := bd_some hm
            refine rd_drop ?_
            refine rd_methNS ?_
            refine rd_v rfl ?_
            refine mt_at w__law_rule.at_ (by rfl) ?_
            refine rd_cons ?_
            refine rd_op ?_
            refine rd_v rfl ?_
            refine rd_c ?_
            refine rd_ixL (S138.l f__law_values).r e143 (fun u144 f145 => ?_)
            obtain ⟨t146, e147, hm⟩ := bd_some hm
            refine rd_nil ?_
            refine And.intro rfl ?_
            refine ⟨F134, _, _, _, _, _, ((a__law_rule.1, a__law_rule.2.1, a__law_rule.2.2)), _, ([t142] : List Th), t146, rfl, S138.sub, ⟨w__law_rule.fr, w__law_rule.at_, .inr (rfl)⟩, f_openers, f_closers, f_settings, rfl, (.cons f145 .nil), e147, ?_, ?_⟩
            rotate_left
            · skip
              intro x158 cls159 d160 F161 H162 ee163 c164 w166 ea165
              subst ee163
              have hm := exT_err hm
              obtain ⟨dd167, rfl, rfl, hx168⟩ := ea165
              refine rd_was T.xm_NoRule_NoRule (fun a169 na170 => ?_)
              have S171 := S138.call1 c164 w__law_rule
              have f__law_values := (qL qTh).mono c164.le f__law_values
              have f__law_asked := (qL qI).mono c164.le f__law_asked
              have f_openers := (qL qPat).mono c164.le f_openers
              have f_closers := (qL qPat).mono c164.le f_closers
              have f_settings := qSd.mono c164.le f_settings
              have w172 : Ow (fun a => a = p__law_rule) H0 _ _ _ _ := ⟨w166.fr, w166.at_, w__law_rule.mine⟩
              have f173 : (qO qS).r K F161 (V.str (x158)) (some x158) := (show (qO qS).r K F161 (V.str (x158)) (some x158) from rfl)
              cases hm
              refine rd_ret ?_
              refine rd_xf ?_
              refine rd_v rfl ?_
              refine xf_at hx168 (by rfl) ?_
              exact hQ _ _ _ _ S171 w172 f_settings f173
            intro t148 er151 v149 F152 H153 u156 c154 w155 f157 f150
            subst er151
            have hm := exT_ok hm
            have S174 := S138.call1 c154 w__law_rule
            have f__law_values := (qL qTh).mono c154.le f__law_values
            have f__law_asked := (qL qI).mono c154.le f__law_asked
            have f_openers := (qL qPat).mono c154.le f_openers
            have f_closers := (qL qPat).mono c154.le f_closers
            have f_settings := qSd.mono c154.le f_settings
            have w175 : Ow (fun a => a = p__law_rule) H0 _ _ _ _ := ⟨w155.fr, w155.at_, w__law_rule.mine⟩
            cases (show v149 = V.non from f150)
            have f176 : (qO qS).r K F152 V.non none := (show (qO qS).r K F152 V.non none from rfl)
            cases hm
            refine rd_ret ?_
            refine rd_c ?_
            exact hQ _ _ _ _ S174 w175 f157 f176
          · skip
            refine rd_ifS ?_
            refine rd_test ?_
            refine rd_op ?_
            refine rd_v rfl ?_
            refine rd_lst ?_
            refine rd_cons ?_
            refine rd_c ?_
            refine rd_cons ?_
            refine rd_c ?_
            refine rd_nil ?_
            refine rd_lK rfl ?_
            refine alL (K := K) (A := qI) (xs := ([0, 2] : List Int)) S138 (.cons rfl (.cons rfl .nil)) (fun v177 F178 H179 c180 f181 => ?_)
            have S182 := S138.call0 c180
            have f__law_values := (qL qTh).mono c180.le f__law_values
            have f__law_asked := (qL qI).mono c180.le f__law_asked
            have f_openers := (qL qPat).mono c180.le f_openers
            have f_closers := (qL qPat).mono c180.le f_closers
            have f_settings := qSd.mono c180.le f_settings
            have w__law_rule := w__law_rule.call0 c180
            obtain ⟨g183, hm⟩ := gd_some hm
            obtain ⟨g184, hm⟩ := gd_some hm
            refine rd_eqD (D := (dL dI)) (S182.d (dL dI) f__law_asked) (S182.d (dL dI) f181) g183 g184 ?_
            refine rd_b ?_
            refine if_b hm (fun b185 hm => ?_) (fun b185 hm => ?_)
            · skip
              obtain ⟨t186, e187, hm⟩ := bd_some hm
              refine rd_drop ?_
              refine rd_methNS ?_
              refine rd_v rfl ?_
              refine mt_at w__law_rule.at_ (by rfl) ?_
              refine rd_cons ?_
              refine rd_op ?_
              refine rd_v rfl ?_
              refine rd_c ?_
              refine rd_ixL (S182.l f__law_values).r e187 (fun u188 f189 => ?_)
              obtain ⟨t190, e191, hm⟩ := bd_some hm
              refine rd_cons ?_
              refine rd_op ?_
              refine rd_v rfl ?_
              refine rd_c ?_
              refine rd_ixL (S182.l f__law_values).r e191 (fun u192 f193 => ?_)
              obtain ⟨t194, e195, hm⟩ := bd_some hm
              refine rd_nil ?_
              refine And.intro rfl ?_
              refine ⟨F178, _, _, _, _, _, ((a__law_rule.1, a__law_rule.2.1, a__law_rule.2.2)), _, ([t186, t190] : List Th), t194, rfl, S182.sub, ⟨w__law_rule.fr, w__law_rule.at_, .inr (rfl)⟩, f_openers, f_closers, f_settings, rfl, (.cons f189 (.cons f193 .nil)), e195, ?_, ?_⟩
              rotate_left
              · skip
                intro x206 cls207 d208 F209 H210 ee211 c212 w214 ea213
                subst ee211
                have hm := exT_err hm
                obtain ⟨dd215, rfl, rfl, hx216⟩ := ea213
                refine rd_was T.xm_NoRule_NoRule (fun a217 na218 => ?_)
                have S219 := S182.call1 c212 w__law_rule
                have f__law_values := (qL qTh).mono c212.le f__law_values
                have f__law_asked := (qL qI).mono c212.le f__law_asked
                have f_openers := (qL qPat).mono c212.le f_openers
                have f_closers := (qL qPat).mono c212.le f_closers
                have f_settings := qSd.mono c212.le f_settings
                have w220 : Ow (fun a => a = p__law_rule) H0 _ _ _ _ := ⟨w214.fr, w214.at_, w__law_rule.mine⟩
                have f221 : (qO qS).r K F209 (V.str (x206)) (some x206) := (show (qO qS).r K F209 (V.str (x206)) (some x206) from rfl)
                cases hm
                refine rd_ret ?_
                refine rd_xf ?_
                refine rd_v rfl ?_
                refine xf_at hx216 (by rfl) ?_
                exact hQ _ _ _ _ S219 w220 f_settings f221
              intro t196 er199 v197 F200 H201 u204 c202 w203 f205 f198
              subst er199
              have hm := exT_ok hm
              have S222 := S182.call1 c202 w__law_rule
              have f__law_values := (qL qTh).mono c202.le f__law_values
              have f__law_asked := (qL qI).mono c202.le f__law_asked
              have f_openers := (qL qPat).mono c202.le f_openers
              have f_closers := (qL qPat).mono c202.le f_closers
              have f_settings := qSd.mono c202.le f_settings
              have w223 : Ow (fun a => a = p__law_rule) H0 _ _ _ _ := ⟨w203.fr, w203.at_, w__law_rule.mine⟩
              cases (show v197 = V.non from f198)
              have f224 : (qO qS).r K F200 V.non none := (show (qO qS).r K F200 V.non none from rfl)
              cases hm
              refine rd_ret ?_
              refine rd_c ?_
              exact hQ _ _ _ _ S222 w223 f205 f224
            · skip
              refine rd_ifS ?_
              refine rd_test ?_
              refine rd_op ?_
              refine rd_v rfl ?_
              refine rd_lst ?_
              refine rd_cons ?_
              refine rd_c ?_
              refine rd_cons ?_
              refine rd_c ?_
              refine rd_nil ?_
              refine rd_lK rfl ?_
              refine alL (K := K) (A := qI) (xs := ([1, 3] : List Int)) S182 (.cons rfl (.cons rfl .nil)) (fun v225 F226 H227 c228 f229 => ?_)
              have S230 := S182.call0 c228
              have f__law_values := (qL qTh).mono c228.le f__law_values
              have f__law_asked := (qL qI).mono c228.le f__law_asked
              have f_openers := (qL qPat).mono c228.le f_openers
              have f_closers := (qL qPat).mono c228.le f_closers
              have f_settings := qSd.mono c228.le f_settings
              have w__law_rule := w__law_rule.call0 c228
              obtain ⟨g231, hm⟩ := gd_some hm
              obtain ⟨g232, hm⟩ := gd_some hm
              refine rd_eqD (D := (dL dI)) (S230.d (dL dI) f__law_asked) (S230.d (dL dI) f229) g231 g232 ?_
              refine rd_b ?_
              refine if_b hm (fun b233 hm => ?_) (fun b233 hm => ?_)
              · skip
                obtain ⟨t234, e235, hm⟩ := bd_some hm
                refine rd_drop ?_
                refine rd_methNS ?_
                refine rd_v rfl ?_
                refine mt_at w__law_rule.at_ (by rfl) ?_
                refine rd_cons ?_
                refine rd_op ?_
                refine rd_v rfl ?_
                refine rd_c ?_
                refine rd_ixL (S230.l f__law_values).r e235 (fun u236 f237 => ?_)
                obtain ⟨t238, e239, hm⟩ := bd_some hm
                refine rd_cons ?_
                refine rd_op ?_
                refine rd_v rfl ?_
                refine rd_c ?_
                refine rd_ixL (S230.l f__law_values).r e239 (fun u240 f241 => ?_)
                obtain ⟨t242, e243, hm⟩ := bd_some hm
                refine rd_nil ?_
                refine And.intro rfl ?_
                refine ⟨F226, _, _, _, _, _, ((a__law_rule.1, a__law_rule.2.1, a__law_rule.2.2)), _, ([t234, t238] : List Th), t242, rfl, S230.sub, ⟨w__law_rule.fr, w__law_rule.at_, .inr (rfl)⟩, f_openers, f_closers, f_settings, rfl, (.cons f237 (.cons f241 .nil)), e243, ?_, ?_⟩
                rotate_left
                · skip
                  intro x254 cls255 d256 F257 H258 ee259 c260 w262 ea261
                  subst ee259
                  have hm := exT_err hm
                  obtain ⟨dd263, rfl, rfl, hx264⟩ := ea261
                  refine rd_was T.xm_NoRule_NoRule (fun a265 na266 => ?_)
                  have S267 := S230.call1 c260 w__law_rule
                  have f__law_values := (qL qTh).mono c260.le f__law_values
                  have f__law_asked := (qL qI).mono c260.le f__law_asked
                  have f_openers := (qL qPat).mono c260.le f_openers
                  have f_closers := (qL qPat).mono c260.le f_closers
                  have f_settings := qSd.mono c260.le f_settings
                  have w268 : Ow (fun a => a = p__law_rule) H0 _ _ _ _ := ⟨w262.fr, w262.at_, w__law_rule.mine⟩
                  have f269 : (qO qS).r K F257 (V.str (x254)) (some x254) := (show (qO qS).r K F257 (V.str (x254)) (some x254) from rfl)
                  cases hm
                  refine rd_ret ?_
                  refine rd_xf ?_
                  refine rd_v rfl ?_
                  refine xf_at hx264 (by rfl) ?_
                  exact hQ _ _ _ _ S267 w268 f_settings f269
                intro t244 er247 v245 F248 H249 u252 c250 w251 f253 f246
                subst er247
                have hm := exT_ok hm
                have S270 := S230.call1 c250 w__law_rule
                have f__law_values := (qL qTh).mono c250.le f__law_values
                have f__law_asked := (qL qI).mono c250.le f__law_asked
                have f_openers := (qL qPat).mono c250.le f_openers
                have f_closers := (qL qPat).mono c250.le f_closers
                have f_settings := qSd.mono c250.le f_settings
                have w271 : Ow (fun a => a = p__law_rule) H0 _ _ _ _ := ⟨w251.fr, w251.at_, w__law_rule.mine⟩
                cases (show v245 = V.non from f246)
                have f272 : (qO qS).r K F248 V.non none := (show (qO qS).r K F248 V.non none from rfl)
                cases hm
                refine rd_ret ?_
                refine rd_c ?_
                exact hQ _ _ _ _ S270 w271 f253 f272
              · skip
                refine rd_ifS ?_
                refine rd_test ?_
                refine rd_op ?_
                refine rd_v rfl ?_
                refine rd_lst ?_
                refine rd_nil ?_
                refine rd_lK rfl ?_
                refine alL (K := K) (A := qI) (xs := ([] : List Int)) S230 .nil (fun v273 F274 H275 c276 f277 => ?_)
                have S278 := S230.call0 c276
                have f__law_values := (qL qTh).mono c276.le f__law_values
                have f__law_asked := (qL qI).mono c276.le f__law_asked
                have f_openers := (qL qPat).mono c276.le f_openers
                have f_closers := (qL qPat).mono c276.le f_closers
                have f_settings := qSd.mono c276.le f_settings
                have w__law_rule := w__law_rule.call0 c276
                obtain ⟨g279, hm⟩ := gd_some hm
                obtain ⟨g280, hm⟩ := gd_some hm
                refine rd_eqD (D := (dL dI)) (S278.d (dL dI) f__law_asked) (S278.d (dL dI) f277) g279 g280 ?_
                refine rd_b ?_
                refine if_b hm (fun b281 hm => ?_) (fun b281 hm => ?_)
                · skip
                  obtain ⟨t282, e283, hm⟩ := bd_some hm
                  refine rd_drop ?_
                  refine rd_methNS ?_
                  refine rd_v rfl ?_
                  refine mt_at w__law_rule.at_ (by rfl) ?_
                  refine rd_nil ?_
                  refine And.intro rfl ?_
                  refine ⟨F274, _, _, _, _, _, ((a__law_rule.1, a__law_rule.2.1, a__law_rule.2.2)), _, ([] : List Th), t282, rfl, S278.sub, ⟨w__law_rule.fr, w__law_rule.at_, .inr (rfl)⟩, f_openers, f_closers, f_settings, rfl, .nil, e283, ?_, ?_⟩
                  rotate_left
                  · skip
                    intro x294 cls295 d296 F297 H298 ee299 c300 w302 ea301
                    subst ee299
                    have hm := exT_err hm
                    obtain ⟨dd303, rfl, rfl, hx304⟩ := ea301
                    refine rd_was T.xm_NoRule_NoRule (fun a305 na306 => ?_)
                    have S307 := S278.call1 c300 w__law_rule
                    have f__law_values := (qL qTh).mono c300.le f__law_values
                    have f__law_asked := (qL qI).mono c300.le f__law_asked
                    have f_openers := (qL qPat).mono c300.le f_openers
                    have f_closers := (qL qPat).mono c300.le f_closers
                    have f_settings := qSd.mono c300.le f_settings
                    have w308 : Ow (fun a => a = p__law_rule) H0 _ _ _ _ := ⟨w302.fr, w302.at_, w__law_rule.mine⟩
                    have f309 : (qO qS).r K F297 (V.str (x294)) (some x294) := (show (qO qS).r K F297 (V.str (x294)) (some x294) from rfl)
                    cases hm
                    refine rd_ret ?_
                    refine rd_xf ?_
                    refine rd_v rfl ?_
                    refine xf_at hx304 (by rfl) ?_
                    exact hQ _ _ _ _ S307 w308 f_settings f309
                  intro t284 er287 v285 F288 H289 u292 c290 w291 f293 f286
                  subst er287
                  have hm := exT_ok hm
                  have S310 := S278.call1 c290 w__law_rule
                  have f__law_values := (qL qTh).mono c290.le f__law_values
                  have f__law_asked := (qL qI).mono c290.le f__law_asked
                  have f_openers := (qL qPat).mono c290.le f_openers
                  have f_closers := (qL qPat).mono c290.le f_closers
                  have f_settings := qSd.mono c290.le f_settings
                  have w311 : Ow (fun a => a = p__law_rule) H0 _ _ _ _ := ⟨w291.fr, w291.at_, w__law_rule.mine⟩
                  cases (show v285 = V.non from f286)
                  have f312 : (qO qS).r K F288 V.non none := (show (qO qS).r K F288 V.non none from rfl)
                  cases hm
                  refine rd_ret ?_
                  refine rd_c ?_
                  exact hQ _ _ _ _ S310 w311 f293 f312
                · skip
                  obtain ⟨t313, e314, hm⟩ := bd_some hm
                  refine rd_drop ?_
                  refine rd_methNS ?_
                  refine rd_v rfl ?_
                  refine mt_at w__law_rule.at_ (by rfl) ?_
                  refine rd_cons ?_
                  refine rd_op ?_
                  refine rd_v rfl ?_
                  refine rd_c ?_
                  refine rd_ixL (S278.l f__law_values).r e314 (fun u315 f316 => ?_)
                  obtain ⟨t317, e318, hm⟩ := bd_some hm
                  refine rd_cons ?_
                  refine rd_op ?_
                  refine rd_v rfl ?_
                  refine rd_c ?_
                  refine rd_ixL (S278.l f__law_values).r e318 (fun u319 f320 => ?_)
                  obtain ⟨t321, e322, hm⟩ := bd_some hm
                  refine rd_cons ?_
                  refine rd_op ?_
                  refine rd_v rfl ?_
                  refine rd_c ?_
                  refine rd_ixL (S278.l f__law_values).r e322 (fun u323 f324 => ?_)
                  obtain ⟨t325, e326, hm⟩ := bd_some hm
                  refine rd_cons ?_
                  refine rd_op ?_
                  refine rd_v rfl ?_
                  refine rd_c ?_
                  refine rd_ixL (S278.l f__law_values).r e326 (fun u327 f328 => ?_)
                  obtain ⟨t329, e330, hm⟩ := bd_some hm
                  refine rd_nil ?_
                  refine And.intro rfl ?_
                  refine ⟨F274, _, _, _, _, _, ((a__law_rule.1, a__law_rule.2.1, a__law_rule.2.2)), _, ([t313, t317, t321, t325] : List Th), t329, rfl, S278.sub, ⟨w__law_rule.fr, w__law_rule.at_, .inr (rfl)⟩, f_openers, f_closers, f_settings, rfl, (.cons f316 (.cons f320 (.cons f324 (.cons f328 .nil)))), e330, ?_, ?_⟩
                  rotate_left
                  · skip
                    intro x341 cls342 d343 F344 H345 ee346 c347 w349 ea348
                    subst ee346
                    have hm := exT_err hm
                    obtain ⟨dd350, rfl, rfl, hx351⟩ := ea348
                    refine rd_was T.xm_NoRule_NoRule (fun a352 na353 => ?_)
                    have S354 := S278.call1 c347 w__law_rule
                    have f__law_values := (qL qTh).mono c347.le f__law_values
                    have f__law_asked := (qL qI).mono c347.le f__law_asked
                    have f_openers := (qL qPat).mono c347.le f_openers
                    have f_closers := (qL qPat).mono c347.le f_closers
                    have f_settings := qSd.mono c347.le f_settings
                    have w355 : Ow (fun a => a = p__law_rule) H0 _ _ _ _ := ⟨w349.fr, w349.at_, w__law_rule.mine⟩
                    have f356 : (qO qS).r K F344 (V.str (x341)) (some x341) := (show (qO qS).r K F344 (V.str (x341)) (some x341) from rfl)
                    cases hm
                    refine rd_ret ?_
                    refine rd_xf ?_
                    refine rd_v rfl ?_
                    refine xf_at hx351 (by rfl) ?_
                    exact hQ _ _ _ _ S354 w355 f_settings f356
                  intro t331 er334 v332 F335 H336 u339 c337 w338 f340 f333
                  subst er334
                  have hm := exT_ok hm
                  have S357 := S278.call1 c337 w__law_rule
                  have f__law_values := (qL qTh).mono c337.le f__law_values
                  have f__law_asked := (qL qI).mono c337.le f__law_asked
                  have f_openers := (qL qPat).mono c337.le f_openers
                  have f_closers := (qL qPat).mono c337.le f_closers
                  have f_settings := qSd.mono c337.le f_settings
                  have w358 : Ow (fun a => a = p__law_rule) H0 _ _ _ _ := ⟨w338.fr, w338.at_, w__law_rule.mine⟩
                  cases (show v332 = V.non from f333)
                  have f359 : (qO qS).r K F335 V.non none := (show (qO qS).r K F335 V.non none from rfl)
                  cases hm
                  refine rd_ret ?_
                  refine rd_c ?_
                  exact hQ _ _ _ _ S357 w358 f340 f359
def sp_law_strange (K : PySem.W.Frag) : Sp := fun vs H Q _ => ∃ (F : Hp) (p__law_rule : Addr) (dx : Addr) (u_openers : V) (u_closers : V) (u_settings : V) (a__law_rule : ((List Pat) × (List Pat) × (List (Str × Th)))) (v__law_value_here : V) (a__law_value_here : Th) (r : (Bool × (List (Str × Th)))), vs = [.ref p__law_rule, v__law_value_here] ∧ Same F H ∧ Ow (fun a => a = p__law_rule) H F H p__law_rule (.ins (He.ga K "Rule") dx [("openers", u_openers), ("closers", u_closers), ("settings", u_settings)]) ∧ (qL qPat).r K F u_openers a__law_rule.1 ∧ (qL qPat).r K F u_closers a__law_rule.2.1 ∧ qSd.r K F u_settings a__law_rule.2.2 ∧ qTh.r K F v__law_value_here a__law_value_here ∧ m_law_strange a__law_rule a__law_value_here = some r ∧ ∀ (v : V) (F' H' : Hp) (u'_settings : V), Sx (fun a => a = p__law_rule) F H F' H' → Ow (fun a => a = p__law_rule) H F' H' p__law_rule (.ins (He.ga K "Rule") dx [("openers", u_openers), ("closers", u_closers), ("settings", u'_settings)]) → qSd.r K F' u'_settings r.2 → qB.r K F' v r.1 → Q v H'
theorem sc_law_strange : FnScope ["_law_rule", "_law_value_here", "e"] ["_law_rule", "_law_value_here"] (defScope s_law_strange) := ⟨rfl, rfl, rfl, by decide +kernel, rfl, by decide +kernel, by decide +kernel⟩
theorem bn_law_strange (T : Tx P K mg) : Binds K (fdOf K ("_law_strange", none)) ["_law_rule", "_law_value_here"] [] := FunD.bindsN T.F_law_strange fun _ _ _ _ _ _ us hl => match us, hl with | [_, _], _ => rfl
theorem ok_law_strange (T : Tx P K mg) : FnOk P w K mg base CX0 5 (He.ga K "_law_strange") (fdOf K ("_law_strange", none)) ["_law_rule", "_law_value_here"] (sp_law_strange K) := by
  refine FunD.ok T.F_law_strange sc_law_strange (fun vs H0 Q E h => ?_) (fun cdv A outer s H0 vs Q E hr h => ?_)
  · obtain ⟨_, _, _, _, _, _, _, _, _, _, rfl, _⟩ := h
    rfl
  · obtain ⟨F0, p__law_rule, dx, u_openers, u_closers, u_settings, a__law_rule, v__law_value_here, a__law_value_here, r, rfl, hE, w__law_rule, f_openers, f_closers, f_settings, f__law_value_here, hm, hQ⟩ := h
    refine ⟨_, PSs.nox ((pss_cons (ps_tryK (i := 2) rfl rfl sc_law_strange.nd rfl rfl ⟨by rfl, by decide, .inl T.gx_NoRule⟩ takesF (fun W pn xe tk own => (pss_one (ps_expr (pe_methNS (pv 0) T.c_Rule T.me_Rule_change (ok_Rule_change_vx T (ks := (["most", "speed"] : List Str)) (by decide) (by decide) (fun kV doc pm an cdv ct u xs hl => match xs, hl with | [_, _], _ => by unfold BindN; rfl)) (hr.mono (by decide)) (fun σ => passAt tk σ) (pk_cons (pv 1) (pk_cons pe_int pk_nil)))))) (fun a oe cls d pn hz hf => (pss_one (ps_ret (pe_cmpR op_eqS (pe_xf T.er_NoRule.xf (T.er_NoRule.no _ (by decide)) hz hf (pv 2)) pe_str (nomark _)))))) (pss_one (ps_ret pe_bl)))), ?_⟩
    have S : Sx (fun a => a = p__law_rule) F0 H0 F0 H0 := Sx.refl hE (by
        rintro a rfl
        · rw [w__law_rule.at_]; exact (fun h => nomatch h))
    unfold m_law_strange at hm
    obtain ⟨t1, e2, hm⟩ := bd_some hm
    refine rd_seq ?_
    refine rd_try ?_
    refine rd_drop ?_
    refine rd_methNS ?_
    refine rd_v rfl ?_
    refine mt_at w__law_rule.at_ (by rfl) ?_
    refine rd_cons ?_
    refine rd_v rfl ?_
    refine rd_cons ?_
    refine rd_c ?_
    refine rd_nil ?_
    refine And.intro rfl ?_
    refine ⟨F0, _, _, _, _, _, ((a__law_rule.1, a__law_rule.2.1, a__law_rule.2.2)), _, ([a__law_value_here, (Th.d (PyData.int (2)))] : List Th), t1, rfl, S.sub, ⟨w__law_rule.fr, w__law_rule.at_, .inr (rfl)⟩, f_openers, f_closers, f_settings, rfl, (.cons f__law_value_here (.cons (show qTh.r K F0 _ (Th.d (PyData.int (2))) from Dp.int _) .nil)), e2, ?_, ?_⟩
    rotate_left
    · skip
      intro x13 cls14 d15 F16 H17 ee18 c19 w21 ea20
      subst ee18
      have hm := exT_err hm
      obtain ⟨dd22, rfl, rfl, hx23⟩ := ea20
      refine rd_was T.xm_NoRule_NoRule (fun a24 na25 => ?_)
      have S26 := S.call1 c19 w__law_rule
      have f__law_value_here := qTh.mono c19.le f__law_value_here
      have f_openers := (qL qPat).mono c19.le f_openers
      have f_closers := (qL qPat).mono c19.le f_closers
      have f_settings := qSd.mono c19.le f_settings
      have w27 : Ow (fun a => a = p__law_rule) H0 _ _ _ _ := ⟨w21.fr, w21.at_, w__law_rule.mine⟩
      cases hm
      refine rd_ret ?_
      refine rd_op ?_
      refine rd_xf ?_
      refine rd_v rfl ?_
      refine xf_at hx23 (by rfl) ?_
      refine rd_c ?_
      refine rd_S0 ?_
      exact hQ _ _ _ _ S26 w27 f_settings rfl
    intro t3 er6 v4 F7 H8 u11 c9 w10 f12 f5
    subst er6
    have hm := exT_ok hm
    have S28 := S.call1 c9 w__law_rule
    have f__law_value_here := qTh.mono c9.le f__law_value_here
    have f_openers := (qL qPat).mono c9.le f_openers
    have f_closers := (qL qPat).mono c9.le f_closers
    have f_settings := qSd.mono c9.le f_settings
    have w29 : Ow (fun a => a = p__law_rule) H0 _ _ _ _ := ⟨w10.fr, w10.at_, w__law_rule.mine⟩
    cases (show v4 = V.non from f5)
    cases hm
    refine rd_ret ?_
    refine rd_c ?_
    exact hQ _ _ _ _ S28 w29 f12 rfl
def sp_law_changes (K : PySem.W.Frag) : Sp := fun vs H Q _ => ∃ (F : Hp) (p__law_pool_here : Addr) (a__law_pool_here : Int × Int) (p__law_rule : Addr) (dx : Addr) (u_openers : V) (u_closers : V) (u_settings : V) (a__law_rule : ((List Pat) × (List Pat) × (List (Str × Th)))) (v__law_values : V) (a__law_values : (List Th)) (v__law_begins : V) (a__law_begins : (List Str)) (v__law_ends : V) (a__law_ends : (List Str)) (r : ((Bool × (List (Str × Th))) × (Int × Int))), vs = [.ref p__law_pool_here, .ref p__law_rule, v__law_values, v__law_begins, v__law_ends] ∧ Same F H ∧ Ow (fun a => a = p__law_rule ∨ a = p__law_pool_here) H F H p__law_pool_here (.lst [.int a__law_pool_here.1, .int a__law_pool_here.2]) ∧ Ow (fun a => a = p__law_rule ∨ a = p__law_pool_here) H F H p__law_rule (.ins (He.ga K "Rule") dx [("openers", u_openers), ("closers", u_closers), ("settings", u_settings)]) ∧ (qL qPat).r K F u_openers a__law_rule.1 ∧ (qL qPat).r K F u_closers a__law_rule.2.1 ∧ qSd.r K F u_settings a__law_rule.2.2 ∧ p__law_rule ≠ p__law_pool_here ∧ (qL qTh).r K F v__law_values a__law_values ∧ (qL qS).r K F v__law_begins a__law_begins ∧ (qL qS).r K F v__law_ends a__law_ends ∧ m_law_changes a__law_pool_here a__law_rule a__law_values a__law_begins a__law_ends = some r ∧ ∀ (v : V) (F' H' : Hp) (u'_settings : V), Sx (fun a => a = p__law_rule ∨ a = p__law_pool_here) F H F' H' → Ow (fun a => a = p__law_rule ∨ a = p__law_pool_here) H F' H' p__law_rule (.ins (He.ga K "Rule") dx [("openers", u_openers), ("closers", u_closers), ("settings", u'_settings)]) → qSd.r K F' u'_settings r.1.2 → Ow (fun a => a = p__law_rule ∨ a = p__law_pool_here) H F' H' p__law_pool_here (.lst [.int r.2.1, .int r.2.2]) → qB.r K F' v r.1.1 → Q v H'
theorem sc_law_changes : FnScope ["_law_pool_here", "_law_rule", "_law_values", "_law_begins", "_law_ends", "_law_turn", "_law_asked", "_law_new", "_law_due_here", "_law_k"] ["_law_pool_here", "_law_rule", "_law_values", "_law_begins", "_law_ends"] (defScope s_law_changes) := ⟨rfl, rfl, rfl, by decide +kernel, rfl, by decide +kernel, by decide +kernel⟩
theorem bn_law_changes (T : Tx P K mg) : Binds K (fdOf K ("_law_changes", none)) ["_law_pool_here", "_law_rule", "_law_values", "_law_begins", "_law_ends"] [] := FunD.bindsN T.F_law_changes fun _ _ _ _ _ _ us hl => match us, hl with | [_, _, _, _, _], _ => rfl
theorem ok_law_changes (T : Tx P K mg) : FnOk P w K mg base CX0 15 (He.ga K "_law_changes") (fdOf K ("_law_changes", none)) ["_law_pool_here", "_law_rule", "_law_values", "_law_begins", "_law_ends"] (sp_law_changes K) := by
  refine FunD.ok T.F_law_changes sc_law_changes (fun vs H0 Q E h => ?_) (fun cdv A outer s H0 vs Q E hr h => ?_)
  · obtain ⟨_, _, _, _, _, _, _, _, _, _, _, _, _, _, _, _, rfl, _⟩ := h
    rfl
  · obtain ⟨F0, p__law_pool_here, a__law_pool_here, p__law_rule, dx, u_openers, u_closers, u_settings, a__law_rule, v__law_values, a__law_values, v__law_begins, a__law_begins, v__law_ends, a__law_ends, r, rfl, hE, w__law_pool_here, w__law_rule, f_openers, f_closers, f_settings, nn_p__law_rule_p__law_pool_here, f__law_values, f__law_begins, f__law_ends, hm, hQ⟩ := h
    refine ⟨_, PSs.nox ((pss_cons (ps_set (i := 2) sc_law_changes.nd rfl (dk rfl) (pe_call (ok_law_assigns T) (hr.mono (by decide)) (by rfl) T.g_law_assigns T.F_law_assigns.kp (bn_law_assigns T) .nil pass0 (pa_cons (pv 0) (pa_cons (pv 1) (pa_cons (pv 2) (pa_cons (pv 3) (pa_cons (pv 4) pa_nil))))))) (pss_cons (ps_if (pt_cmpR op_isN' (pv 2) pe_non (nomark _)) (pss_one (ps_ret pe_bl)) pss_nil) (pss_cons (ps_for PassesOwn.never rfl (pi_range1 (by rfl) T.n_range (pa_cons pe_int pa_nil)) (pg_name (i := 5) sc_law_changes.nd rfl (dk rfl)) (pss_cons (ps_set (i := 6) sc_law_changes.nd rfl (dk rfl) (pe_ix (r := rIxL K) ix_list (pe_lst (pa_cons (pe_lst (pa_cons pe_int pa_nil)) (pa_cons (pe_lst (pa_cons pe_int pa_nil)) (pa_cons (pe_lst (pa_cons pe_int pa_nil)) (pa_cons (pe_lst (pa_cons pe_int pa_nil)) (pa_cons (pe_lst (pa_cons pe_int (pa_cons pe_int pa_nil))) (pa_cons (pe_lst (pa_cons pe_int (pa_cons pe_int pa_nil))) (pa_cons (pe_lst pa_nil) (pa_cons (pe_lst (pa_cons pe_int (pa_cons pe_int (pa_cons pe_int (pa_cons pe_int pa_nil))))) pa_nil))))))))) (pe_call (ok_law_take T) (hr.mono (by decide)) (by rfl) T.g_law_take T.F_law_take.kp (bn_law_take T) .nil pass0 (pa_cons (pv 0) (pa_cons pe_int pa_nil))) (fun _ _ => rfl))) (pss_cons (ps_set (i := 7) sc_law_changes.nd rfl (dk rfl) (pe_lc (own := [("_law_k", 9)]) (tt := tYes) rfl sc_law_changes.nd (pi_range1 (by rfl) T.n_range (pa_cons pe_int pa_nil)) (blkOk_by (N := ["_law_pool_here", "_law_rule", "_law_values", "_law_begins", "_law_ends", "_law_turn", "_law_asked", "_law_new", "_law_due_here", "_law_k"]) (sc := defScope s_law_changes) (by decide +kernel)) (fun _ _ _ _ _ => pg_name (i := 9) sc_law_changes.nd rfl (Or.inl rfl)) (fun _ _ _ _ _ => pts_nil) (fun _ _ _ _ _ => (pe_call (ok_law_value T) (hr.mono (by decide)) (by rfl) T.g_law_value T.F_law_value.kp (bn_law_value T) .nil pass0 (pa_cons (pv 0) (pa_cons (pv 9) pa_nil)))))) (pss_cons (ps_set (i := 8) sc_law_changes.nd rfl (dk rfl) (pe_call (ok_law_due T) (hr.mono (by decide)) (by rfl) T.g_law_due T.F_law_due.kp (bn_law_due T) .nil pass0 (pa_cons (pv 7) (pa_cons (pv 6) pa_nil)))) (pss_cons (ps_if (pt_cmpR (r := rNeD K) (op_neD hr.units) (pe_call (ok_law_change T) (hr.mono (by decide)) (by rfl) T.g_law_change T.F_law_change.kp (bn_law_change T) .nil pass0 (pa_cons (pv 1) (pa_cons (pv 7) (pa_cons (pv 6) pa_nil)))) (pv 8) (nomark _)) (pss_one (ps_ret pe_bl)) pss_nil) (C8.pss_cut (ps_if (pt_cmpR op_isN' (pv 8) pe_non (nomark _)) (pss_one (ps_set (i := 2) sc_law_changes.nd rfl (dk rfl) (pe_lc (own := [("_law_k", 9)]) (tt := tYes) rfl sc_law_changes.nd (pi_range1 (by rfl) T.n_range (pa_cons pe_int pa_nil)) (blkOk_by (N := ["_law_pool_here", "_law_rule", "_law_values", "_law_begins", "_law_ends", "_law_turn", "_law_asked", "_law_new", "_law_due_here", "_law_k"]) (sc := defScope s_law_changes) (by decide +kernel)) (fun _ _ _ _ _ => pg_name (i := 9) sc_law_changes.nd rfl (Or.inl rfl)) (fun _ _ _ _ _ => pts_nil) (fun _ _ _ _ _ => (pe_ifExp (pt_cmpR (r := rIn K false) op_in_seq (pv 9) (pv 6) rfl) (pe_ix (r := rIxL K) ix_list (pv 7) (pv 9) (fun _ _ => rfl)) (pe_ix (r := rIxL K) ix_list (pv 2) (pv 9) (fun _ _ => rfl))))))) pss_nil) (pss_one (ps_if (PW.pt (pw_or (pt_not (pt_val (pe_call (ok_law_strange T) (hr.mono (by decide)) (by rfl) T.g_law_strange T.F_law_strange.kp (bn_law_strange T) .nil pass0 (pa_cons (pv 1) (pa_cons (pe_ix (r := rIxL K) ix_list (pv 7) pe_int (fun _ _ => rfl)) pa_nil))))) (pw_or1 (pt_not (pt_val (pe_call (ok_law_tells T) (hr.mono (by decide)) (by rfl) T.g_law_tells T.F_law_tells.kp (bn_law_tells T) .nil pass0 (pa_cons (pv 1) (pa_cons (pv 2) (pa_cons (pv 3) (pa_cons (pv 4) pa_nil)))))))))) (pss_one (ps_ret pe_bl)) pss_nil)))))))) (pss_one (ps_ret pe_bl)))))), ?_⟩
    have S : Sx (fun a => a = p__law_rule ∨ a = p__law_pool_here) F0 H0 F0 H0 := Sx.refl hE (by
        rintro a (rfl | rfl)
        · rw [w__law_rule.at_]; exact (fun h => nomatch h)
        · rw [w__law_pool_here.at_]; exact (fun h => nomatch h))
    unfold m_law_changes at hm
    obtain ⟨t1, e2, hm⟩ := bd_some hm
    refine rd_seq ?_
    refine rd_asg ?_
    refine rd_call ?_
    refine rd_cons ?_
    refine rd_v rfl ?_
    refine rd_cons ?_
    refine rd_v rfl ?_
    refine rd_cons ?_
    refine rd_v rfl ?_
    refine rd_cons ?_
    refine rd_v rfl ?_
    refine rd_cons ?_
    refine rd_v rfl ?_
    refine rd_nil ?_
    refine ⟨F0, _, _, _, _, _, _, _, ((a__law_rule.1, a__law_rule.2.1, a__law_rule.2.2)), _, _, _, _, _, _, t1, rfl, S.sub, ⟨w__law_pool_here.fr, w__law_pool_here.at_, .inr (Or.inr (rfl))⟩, ⟨w__law_rule.fr, w__law_rule.at_, .inr (Or.inl rfl)⟩, f_openers, f_closers, f_settings, nn_p__law_rule_p__law_pool_here, f__law_values, f__law_begins, f__law_ends, e2, fun v6 F3 H4 u10 c5 w9 f11 w8  f7 => ?_⟩
    have S12 := S.call c5 (by
        rintro a (rfl | rfl)
        · exact w__law_rule.mine.symm
        · exact w__law_pool_here.mine.symm)
    have f__law_values := (qL qTh).mono c5.le f__law_values
    have f__law_begins := (qL qS).mono c5.le f__law_begins
    have f__law_ends := (qL qS).mono c5.le f__law_ends
    have f_openers := (qL qPat).mono c5.le f_openers
    have f_closers := (qL qPat).mono c5.le f_closers
    have f_settings := qSd.mono c5.le f_settings
    have w13 : Ow (fun a => a = p__law_rule ∨ a = p__law_pool_here) H0 _ _ _ _ := ⟨w8.fr, w8.at_, w__law_pool_here.mine⟩
    have w14 : Ow (fun a => a = p__law_rule ∨ a = p__law_pool_here) H0 _ _ _ _ := ⟨w9.fr, w9.at_, w__law_rule.mine⟩
    refine rd_gn ?_
    refine rd_seq ?_
    refine rd_ifS ?_
    refine rd_test ?_
    refine rd_op ?_
    refine rd_v rfl ?_
    refine rd_c ?_
    refine rd_isN (A := (qL qTh)) f7 ?_
    refine rd_b ?_
    refine if_b hm (fun b15 hm => ?_) (fun b15 hm => ?_)
    · skip
      cases hm
      refine rd_ret ?_
      refine rd_c ?_
      exact hQ _ _ _ _ S12 w14 f11 w13 rfl
    · skip
      obtain ⟨g16, hm⟩ := gd_some hm
      refine rd_next ?_
      refine rd_seq ?_
      refine rd_for ?_
      refine rd_iR1 ?_
      refine rd_cons ?_
      refine rd_c ?_
      refine rd_nil ?_
      refine rd_r1 g16 ?_
      obtain ⟨t17, e18, hm⟩ := bd_some hm
      refine rd_forC feedsRg (typedR (K := K) (F := F3)) e18 (fun (s19 : ((Int × Int) × (List (Str × Th)) × (Option (List Th)))) σ H => ∃ (F : Hp) (x2 : V) (o5 : Option V) (o6 : Option V) (o7 : Option V) (o8 : Option V) (o9 : Option V) (u1_2 : V), σ = [some (V.ref p__law_pool_here), some (V.ref p__law_rule), some x2, some v__law_begins, some v__law_ends, o5, o6, o7, o8, o9] ∧ Sx (fun a => a = p__law_pool_here ∨ a = p__law_rule) F3 H4 F H ∧ (qO (qL qTh)).r K F x2 s19.2.2 ∧ Ow (fun a => a = p__law_pool_here ∨ a = p__law_rule) H4 F H p__law_rule (.ins (He.ga K "Rule") dx [("openers", u_openers), ("closers", u_closers), ("settings", u1_2)]) ∧ qSd.r K F u1_2 s19.2.1 ∧ Ow (fun a => a = p__law_pool_here ∨ a = p__law_rule) H4 F H p__law_pool_here (.lst [V.int s19.1.1, V.int s19.1.2])) ?_ ?_ ?_ ?_
      · intro _ _ _ _; trivial
      · skip
        have S21 : Sx (fun a => a = p__law_pool_here ∨ a = p__law_rule) _ _ _ _ := Sx.refl S12.sub (by
            rintro a (rfl | rfl)
            · rw [w13.at_]; exact (fun h => nomatch h)
            · rw [w14.at_]; exact (fun h => nomatch h))
        have w22 : Ow (fun a => a = p__law_pool_here ∨ a = p__law_rule) H4 _ _ _ _ := ⟨w13.fr, w13.at_, .inr (Or.inl rfl)⟩
        have w23 : Ow (fun a => a = p__law_pool_here ∨ a = p__law_rule) H4 _ _ _ _ := ⟨w14.fr, w14.at_, .inr (Or.inr (rfl))⟩
        exact ⟨F3, _, _, _, _, _, _, _, rfl, S21, f7, w23, f11, w22⟩
      · skip
        rintro x24 v25 s26 c30 σ27 H28 f29 ⟨F31, x33, o34, o35, o36, o37, o38, u39, rfl, S32, f40, r41, r42, w43⟩ hm46 hbk44 hrt45
        have f__law_begins := (qL qS).mono S32.le f__law_begins
        have f__law_ends := (qL qS).mono S32.le f__law_ends
        have f_openers := (qL qPat).mono S32.le f_openers
        have f_closers := (qL qPat).mono S32.le f_closers
        unfold m_law_changes_b3 at hm46
        cases (show v25 = (V.int (x24)) from f29)
        refine rd_gn ?_
        refine rd_seq ?_
        refine rd_asg ?_
        refine rd_op ?_
        refine rd_lst ?_
        refine rd_cons ?_
        refine rd_lst ?_
        refine rd_cons ?_
        refine rd_c ?_
        refine rd_nil ?_
        refine rd_lK rfl ?_
        refine alL (K := K) (A := qI) (xs := ([0] : List Int)) S32 (.cons rfl .nil) (fun v47 F48 H49 c50 f51 => ?_)
        have S52 := S32.call0 c50
        have f40 := (qO (qL qTh)).mono c50.le f40
        have f__law_begins := (qL qS).mono c50.le f__law_begins
        have f__law_ends := (qL qS).mono c50.le f__law_ends
        have f_openers := (qL qPat).mono c50.le f_openers
        have f_closers := (qL qPat).mono c50.le f_closers
        have r42 := qSd.mono c50.le r42
        have w43 := w43.call0 c50
        have r41 := r41.call0 c50
        refine rd_cons ?_
        refine rd_lst ?_
        refine rd_cons ?_
        refine rd_c ?_
        refine rd_nil ?_
        refine rd_lK rfl ?_
        refine alL (K := K) (A := qI) (xs := ([1] : List Int)) S52 (.cons rfl .nil) (fun v53 F54 H55 c56 f57 => ?_)
        have S58 := S52.call0 c56
        have f40 := (qO (qL qTh)).mono c56.le f40
        have f__law_begins := (qL qS).mono c56.le f__law_begins
        have f__law_ends := (qL qS).mono c56.le f__law_ends
        have f51 := (qL qI).mono c56.le f51
        have f_openers := (qL qPat).mono c56.le f_openers
        have f_closers := (qL qPat).mono c56.le f_closers
        have r42 := qSd.mono c56.le r42
        have w43 := w43.call0 c56
        have r41 := r41.call0 c56
        refine rd_cons ?_
        refine rd_lst ?_
        refine rd_cons ?_
        refine rd_c ?_
        refine rd_nil ?_
        refine rd_lK rfl ?_
        refine alL (K := K) (A := qI) (xs := ([2] : List Int)) S58 (.cons rfl .nil) (fun v59 F60 H61 c62 f63 => ?_)
        have S64 := S58.call0 c62
        have f40 := (qO (qL qTh)).mono c62.le f40
        have f__law_begins := (qL qS).mono c62.le f__law_begins
        have f__law_ends := (qL qS).mono c62.le f__law_ends
        have f51 := (qL qI).mono c62.le f51
        have f57 := (qL qI).mono c62.le f57
        have f_openers := (qL qPat).mono c62.le f_openers
        have f_closers := (qL qPat).mono c62.le f_closers
        have r42 := qSd.mono c62.le r42
        have w43 := w43.call0 c62
        have r41 := r41.call0 c62
        refine rd_cons ?_
        refine rd_lst ?_
        refine rd_cons ?_
        refine rd_c ?_
        refine rd_nil ?_
        refine rd_lK rfl ?_
        refine alL (K := K) (A := qI) (xs := ([3] : List Int)) S64 (.cons rfl .nil) (fun v65 F66 H67 c68 f69 => ?_)
        have S70 := S64.call0 c68
        have f40 := (qO (qL qTh)).mono c68.le f40
        have f__law_begins := (qL qS).mono c68.le f__law_begins
        have f__law_ends := (qL qS).mono c68.le f__law_ends
        have f51 := (qL qI).mono c68.le f51
        have f57 := (qL qI).mono c68.le f57
        have f63 := (qL qI).mono c68.le f63
        have f_openers := (qL qPat).mono c68.le f_openers
        have f_closers := (qL qPat).mono c68.le f_closers
        have r42 := qSd.mono c68.le r42
        have w43 := w43.call0 c68
        have r41 := r41.call0 c68
        refine rd_cons ?_
        refine rd_lst ?_
        refine rd_cons ?_
        refine rd_c ?_
        refine rd_cons ?_
        refine rd_c ?_
        refine rd_nil ?_
        refine rd_lK rfl ?_
        refine alL (K := K) (A := qI) (xs := ([0, 2] : List Int)) S70 (.cons rfl (.cons rfl .nil)) (fun v71 F72 H73 c74 f75 => ?_)
        have S76 := S70.call0 c74
        have f40 := (qO (qL qTh)).mono c74.le f40
        have f__law_begins := (qL qS).mono c74.le f__law_begins
        have f__law_ends := (qL qS).mono c74.le f__law_ends
        have f51 := (qL qI).mono c74.le f51
        have f57 := (qL qI).mono c74.le f57
        have f63 := (qL qI).mono c74.le f63
        have f69 := (qL qI).mono c74.le f69
        have f_openers := (qL qPat).mono c74.le f_openers
        have f_closers := (qL qPat).mono c74.le f_closers
        have r42 := qSd.mono c74.le r42
        have w43 := w43.call0 c74
        have r41 := r41.call0 c74
        refine rd_cons ?_
        refine rd_lst ?_
        refine rd_cons ?_
        refine rd_c ?_
        refine rd_cons ?_
        refine rd_c ?_
        refine rd_nil ?_
        refine rd_lK rfl ?_
        refine alL (K := K) (A := qI) (xs := ([1, 3] : List Int)) S76 (.cons rfl (.cons rfl .nil)) (fun v77 F78 H79 c80 f81 => ?_)
        have S82 := S76.call0 c80
        have f40 := (qO (qL qTh)).mono c80.le f40
        have f__law_begins := (qL qS).mono c80.le f__law_begins
        have f__law_ends := (qL qS).mono c80.le f__law_ends
        have f51 := (qL qI).mono c80.le f51
        have f57 := (qL qI).mono c80.le f57
        have f63 := (qL qI).mono c80.le f63
        have f69 := (qL qI).mono c80.le f69
        have f75 := (qL qI).mono c80.le f75
        have f_openers := (qL qPat).mono c80.le f_openers
        have f_closers := (qL qPat).mono c80.le f_closers
        have r42 := qSd.mono c80.le r42
        have w43 := w43.call0 c80
        have r41 := r41.call0 c80
        refine rd_cons ?_
        refine rd_lst ?_
        refine rd_nil ?_
        refine rd_lK rfl ?_
        refine alL (K := K) (A := qI) (xs := ([] : List Int)) S82 .nil (fun v83 F84 H85 c86 f87 => ?_)
        have S88 := S82.call0 c86
        have f40 := (qO (qL qTh)).mono c86.le f40
        have f__law_begins := (qL qS).mono c86.le f__law_begins
        have f__law_ends := (qL qS).mono c86.le f__law_ends
        have f51 := (qL qI).mono c86.le f51
        have f57 := (qL qI).mono c86.le f57
        have f63 := (qL qI).mono c86.le f63
        have f69 := (qL qI).mono c86.le f69
        have f75 := (qL qI).mono c86.le f75
        have f81 := (qL qI).mono c86.le f81
        have f_openers := (qL qPat).mono c86.le f_openers
        have f_closers := (qL qPat).mono c86.le f_closers
        have r42 := qSd.mono c86.le r42
        have w43 := w43.call0 c86
        have r41 := r41.call0 c86
        refine rd_cons ?_
        refine rd_lst ?_
        refine rd_cons ?_
        refine rd_c ?_
        refine rd_cons ?_
        refine rd_c ?_
        refine rd_cons ?_
        refine rd_c ?_
        refine rd_cons ?_
        refine rd_c ?_
        refine rd_nil ?_
        refine rd_lK rfl ?_
        refine alL (K := K) (A := qI) (xs := ([0, 1, 2, 3] : List Int)) S88 (.cons rfl (.cons rfl (.cons rfl (.cons rfl .nil)))) (fun v89 F90 H91 c92 f93 => ?_)
        have S94 := S88.call0 c92
        have f40 := (qO (qL qTh)).mono c92.le f40
        have f__law_begins := (qL qS).mono c92.le f__law_begins
        have f__law_ends := (qL qS).mono c92.le f__law_ends
        have f51 := (qL qI).mono c92.le f51
        have f57 := (qL qI).mono c92.le f57
        have f63 := (qL qI).mono c92.le f63
        have f69 := (qL qI).mono c92.le f69
        have f75 := (qL qI).mono c92.le f75
        have f81 := (qL qI).mono c92.le f81
        have f87 := (qL qI).mono c92.le f87
        have f_openers := (qL qPat).mono c92.le f_openers
        have f_closers := (qL qPat).mono c92.le f_closers
        have r42 := qSd.mono c92.le r42
        have w43 := w43.call0 c92
        have r41 := r41.call0 c92
        refine rd_nil ?_
        refine rd_lK rfl ?_
        refine alL (K := K) (A := (qL qI)) (xs := [([0] : List Int), ([1] : List Int), ([2] : List Int), ([3] : List Int), ([0, 2] : List Int), ([1, 3] : List Int), ([] : List Int), ([0, 1, 2, 3] : List Int)]) S94 (.cons f51 (.cons f57 (.cons f63 (.cons f69 (.cons f75 (.cons f81 (.cons f87 (.cons f93 .nil)))))))) (fun v95 F96 H97 c98 f99 => ?_)
        have S100 := S94.call0 c98
        have f40 := (qO (qL qTh)).mono c98.le f40
        have f__law_begins := (qL qS).mono c98.le f__law_begins
        have f__law_ends := (qL qS).mono c98.le f__law_ends
        have f_openers := (qL qPat).mono c98.le f_openers
        have f_closers := (qL qPat).mono c98.le f_closers
        have r42 := qSd.mono c98.le r42
        have w43 := w43.call0 c98
        have r41 := r41.call0 c98
        obtain ⟨t101, e102, hm46⟩ := bd_some hm46
        refine rd_call ?_
        refine rd_cons ?_
        refine rd_v rfl ?_
        refine rd_cons ?_
        refine rd_c ?_
        refine rd_nil ?_
        refine ⟨F96, _, _, _, t101, rfl, S100.sub, w43.arg, e102, fun v106 F103 H104 c105 w108 f107 => ?_⟩
        have S109 := S100.call1 c105 w43
        have f40 := (qO (qL qTh)).mono c105.le f40
        have f__law_begins := (qL qS).mono c105.le f__law_begins
        have f__law_ends := (qL qS).mono c105.le f__law_ends
        have f99 := (qL (qL qI)).mono c105.le f99
        have f_openers := (qL qPat).mono c105.le f_openers
        have f_closers := (qL qPat).mono c105.le f_closers
        have r42 := qSd.mono c105.le r42
        have r41 := r41.call c105 (by intro z; exact nn_p__law_rule_p__law_pool_here z)
        have w110 := w43.back w108
        cases (show v106 = (V.int (t101.1)) from f107)
        obtain ⟨t111, e112, hm46⟩ := bd_some hm46
        refine rd_ixL (S109.l f99).r e112 (fun u113 f114 => ?_)
        obtain ⟨g115, hm46⟩ := gd_some hm46
        refine rd_gn ?_
        refine rd_seq ?_
        refine rd_asg ?_
        refine rd_lc ?_
        refine rd_iR1 ?_
        refine rd_cons ?_
        refine rd_c ?_
        refine rd_nil ?_
        refine rd_r1 g115 ?_
        obtain ⟨g116, hm46⟩ := gd_some hm46
        obtain ⟨t117, e118, hm46⟩ := bd_some hm46
        refine rd_comp (B := qTh) feedsRg (typedR (K := K) (F := F103)) e118 g116 (Pc := (fun a => a = p__law_pool_here)) (fun a z => by rw [z, w110.at_]; exact (fun h => nomatch h)) S109.sub (fun (s119 : (Int × Int)) F H => Ow (fun a => a = p__law_pool_here) H104 F H p__law_pool_here (.lst [V.int s119.1, V.int s119.2])) ?_ ?_ ?_ ?_ ?_ ?_
        · intro _ _ _ _ _; trivial
        · exact ⟨w110.fr, w110.at_, .inr rfl⟩
        · intro s F H q o w _ hq; exact w.temp hq
        · intro s F H q u o w h0 hq; exact w.putO (ne_of_none w110.at_ h0)
        · skip
          intro x121 v122 s123 o124 F125 H126 d127 acc128 f129 S130 w131 w132 n133 hm134 E135 N136 hN137 hE138
          have f40 := (qO (qL qTh)).mono S130.le f40
          have f__law_begins := (qL qS).mono S130.le f__law_begins
          have f__law_ends := (qL qS).mono S130.le f__law_ends
          have f114 := (qL qI).mono S130.le f114
          have f_openers := (qL qPat).mono S130.le f_openers
          have f_closers := (qL qPat).mono S130.le f_closers
          have r42 := qSd.mono S130.le r42
          have r41 := r41.call S130 nn_p__law_rule_p__law_pool_here
          have S139 : Sx (fun a => a = p__law_pool_here) _ _ _ _ := Sx.refl S130.sub (fun a z => by rw [z, w131.at_]; exact (fun h => nomatch h))
          have w140 : Ow (fun a => a = p__law_pool_here) H126 _ _ _ _ := ⟨w131.fr, w131.at_, .inr (rfl)⟩
          unfold m_law_changes_b1 at hm134
          cases (show v122 = (V.int (x121)) from f129)
          obtain ⟨t141, e142, hm134⟩ := bd_some hm134
          refine rd_gn ?_
          refine rd_wp rfl ?_
          refine rd_yes ?_
          refine if_tt ?_
          refine rd_call ?_
          refine rd_cons ?_
          refine rd_v rfl ?_
          refine rd_cons ?_
          refine rd_v rfl ?_
          refine rd_nil ?_
          refine ⟨F125, _, _, _, t141, rfl, S139.sub, w140.arg, e142, fun v146 F143 H144 c145 w148 f147 => ?_⟩
          have S149 := S139.call1 c145 w140
          have f40 := (qO (qL qTh)).mono c145.le f40
          have f__law_begins := (qL qS).mono c145.le f__law_begins
          have f__law_ends := (qL qS).mono c145.le f__law_ends
          have f114 := (qL qI).mono c145.le f114
          have f_openers := (qL qPat).mono c145.le f_openers
          have f_closers := (qL qPat).mono c145.le f_closers
          have r42 := qSd.mono c145.le r42
          have r41 := r41.call c145 (by intro z; exact nn_p__law_rule_p__law_pool_here z)
          have w150 := w140.back w148
          cases hm134
          exact hN137 _ _ _ _ rfl S149 f147 ⟨w150.fr, w150.at_, .inr rfl⟩
        intro p151 us152 F153 H154 n155 c156 w157 w158 r159
        have z160 := S109.free0 n155
        have ne161 : p__law_pool_here ≠ p151 := w110.ne n155
        have ne162 : p__law_rule ≠ p151 := r41.ne n155
        have S163 := S109.call1 c156 w110
        have f40 := (qO (qL qTh)).mono c156.le f40
        have f__law_begins := (qL qS).mono c156.le f__law_begins
        have f__law_ends := (qL qS).mono c156.le f__law_ends
        have f114 := (qL qI).mono c156.le f114
        have f_openers := (qL qPat).mono c156.le f_openers
        have f_closers := (qL qPat).mono c156.le f_closers
        have r42 := qSd.mono c156.le r42
        have w164 : Ow (fun a => a = p__law_pool_here ∨ a = p__law_rule) H4 _ _ _ _ := ⟨w157.fr, w157.at_, w110.mine⟩
        have r41 := r41.call c156 nn_p__law_rule_p__law_pool_here
        have w165 : Ow (fun a => a = p__law_pool_here ∨ a = p__law_rule) H4 _ _ _ _ := ⟨w158.fr, w158.at_, .inl z160⟩
        obtain ⟨F166, S167, le168, f169, _, eq170⟩ := fz S163 w165 z160 r159
        have f40 := (qO (qL qTh)).mono le168 f40
        have f__law_begins := (qL qS).mono le168 f__law_begins
        have f__law_ends := (qL qS).mono le168 f__law_ends
        have f114 := (qL qI).mono le168 f114
        have f_openers := (qL qPat).mono le168 f_openers
        have f_closers := (qL qPat).mono le168 f_closers
        have r42 := qSd.mono le168 r42
        have w164 := w164.fzO ne161 eq170
        have r41 := r41.fzO ne162 eq170
        obtain ⟨t171, e172, hm46⟩ := bd_some hm46
        refine rd_gn ?_
        refine rd_seq ?_
        refine rd_asg ?_
        refine rd_call ?_
        refine rd_cons ?_
        refine rd_v rfl ?_
        refine rd_cons ?_
        refine rd_v rfl ?_
        refine rd_nil ?_
        refine ⟨F166, _, _, _, _, t171, rfl, S167.sub, f169, f114, e172, fun v176 F173 H174 c175 f177 => ?_⟩
        have S178 := S167.call0 c175
        have f40 := (qO (qL qTh)).mono c175.le f40
        have f__law_begins := (qL qS).mono c175.le f__law_begins
        have f__law_ends := (qL qS).mono c175.le f__law_ends
        have f114 := (qL qI).mono c175.le f114
        have f169 := (qL qTh).mono c175.le f169
        have f_openers := (qL qPat).mono c175.le f_openers
        have f_closers := (qL qPat).mono c175.le f_closers
        have r42 := qSd.mono c175.le r42
        have w164 := w164.call0 c175
        have r41 := r41.call0 c175
        obtain ⟨t179, e180, hm46⟩ := bd_some hm46
        refine rd_gn ?_
        refine rd_seq ?_
        refine rd_ifS ?_
        refine rd_test ?_
        refine rd_op ?_
        refine rd_call ?_
        refine rd_cons ?_
        refine rd_v rfl ?_
        refine rd_cons ?_
        refine rd_v rfl ?_
        refine rd_cons ?_
        refine rd_v rfl ?_
        refine rd_nil ?_
        refine ⟨F173, _, _, _, _, _, ((a__law_rule.1, a__law_rule.2.1, s26.2.1)), _, _, _, _, t179, rfl, S178.sub, ⟨r41.fr, r41.at_, .inr (rfl)⟩, f_openers, f_closers, r42, f169, f114, e180, fun v184 F181 H182 u187 c183 w186 f188 f185 => ?_⟩
        have S189 := S178.call1 c183 r41
        have f40 := (qO (qL qTh)).mono c183.le f40
        have f__law_begins := (qL qS).mono c183.le f__law_begins
        have f__law_ends := (qL qS).mono c183.le f__law_ends
        have f114 := (qL qI).mono c183.le f114
        have f169 := (qL qTh).mono c183.le f169
        have f177 := (qO qS).mono c183.le f177
        have f_openers := (qL qPat).mono c183.le f_openers
        have f_closers := (qL qPat).mono c183.le f_closers
        have r42 := qSd.mono c183.le r42
        have w164 := w164.call c183 (Ne.symm nn_p__law_rule_p__law_pool_here)
        have w190 : Ow (fun a => a = p__law_pool_here ∨ a = p__law_rule) H4 _ _ _ _ := ⟨w186.fr, w186.at_, r41.mine⟩
        obtain ⟨g191, hm46⟩ := gd_some hm46
        obtain ⟨g192, hm46⟩ := gd_some hm46
        refine rd_v rfl ?_
        refine rd_neD (D := (dO dS)) (S189.d (dO dS) f185) (S189.d (dO dS) f177) g191 g192 ?_
        refine rd_b ?_
        refine if_b hm46 (fun b193 hm46 => ?_) (fun b193 hm46 => ?_)
        · skip
          cases hm46
          have e194 := hrt45 _ rfl
          subst e194
          have hm := aft_rt hm
          have S195 := S12.call S189 (by
              rintro a (rfl | rfl)
              · exact w13.mine.symm
              · exact w14.mine.symm)
          have w196 : Ow (fun a => a = p__law_rule ∨ a = p__law_pool_here) H0 _ _ _ _ := ⟨w164.fr, w164.at_, w13.mine⟩
          have w197 : Ow (fun a => a = p__law_rule ∨ a = p__law_pool_here) H0 _ _ _ _ := ⟨w190.fr, w190.at_, w14.mine⟩
          cases hm
          refine rd_ret ?_
          refine rd_c ?_
          exact hQ _ _ _ _ S195 w197 f188 w196 rfl
        · skip
          obtain ⟨t198, e199, hm46⟩ := bd_some hm46
          refine rd_next ?_
          refine rd_cut (fun σ' H' => ∃ (F : Hp) (x0 : V) (o9 : Option V), σ' = [some (V.ref p__law_pool_here), some (V.ref p__law_rule), some x0, some v__law_begins, some v__law_ends, some (V.int (x24)), some u113, some (V.ref p151), some v176, o9] ∧ Sx P0 F181 H182 F H' ∧ (qO (qL qTh)).r K F x0 t198) ?_ ?_
          · skip
            have S200 := Sx.refl0 S189.sub
            refine rd_ifS ?_
            refine rd_test ?_
            refine rd_op ?_
            refine rd_v rfl ?_
            refine rd_c ?_
            refine rd_isN (A := qS) f177 ?_
            refine rd_b ?_
            refine if_b e199 (fun b201 e199 => ?_) (fun b201 e199 => ?_)
            · skip
              obtain ⟨g202, e199⟩ := gd_some e199
              refine rd_asg ?_
              refine rd_lc ?_
              refine rd_iR1 ?_
              refine rd_cons ?_
              refine rd_c ?_
              refine rd_nil ?_
              refine rd_r1 g202 ?_
              obtain ⟨g203, e199⟩ := gd_some e199
              obtain ⟨t204, e205, e199⟩ := bd_some e199
              refine rd_comp (B := qTh) feedsRg (typedR (K := K) (F := F181)) e205 g203 (Pc := P0) (fun _ z => z.elim) S200.sub (fun (s206 : Unit) F H => True) ?_ ?_ ?_ ?_ ?_ ?_
              · intro _ _ _ _ _; trivial
              · trivial
              · intros; trivial
              · intros; trivial
              · skip
                intro x208 v209 s210 o211 F212 H213 d214 acc215 f216 S217 w218 w219 n220 hm221 E222 N223 hN224 hE225
                have f40 := (qO (qL qTh)).mono S217.le f40
                have f__law_begins := (qL qS).mono S217.le f__law_begins
                have f__law_ends := (qL qS).mono S217.le f__law_ends
                have f114 := (qL qI).mono S217.le f114
                have f169 := (qL qTh).mono S217.le f169
                have f177 := (qO qS).mono S217.le f177
                have f_openers := (qL qPat).mono S217.le f_openers
                have f_closers := (qL qPat).mono S217.le f_closers
                have f188 := qSd.mono S217.le f188
                have w164 := w164.call0 S217
                have w190 := w190.call0 S217
                have S226 := Sx.refl0 S217.sub
                unfold m_law_changes_b2 at hm221
                cases (show v209 = (V.int (x208)) from f216)
                obtain ⟨t227, e228, hm221⟩ := bd_some hm221
                refine rd_gn ?_
                refine rd_wp rfl ?_
                refine rd_yes ?_
                refine if_tt ?_
                refine rd_ifE ?_
                refine rd_test ?_
                refine rd_op ?_
                refine rd_v rfl ?_
                refine rd_v rfl ?_
                refine rd_inI (S226.l f114).r.q ?_
                refine rd_b ?_
                refine ifE_j (fun c H' => ∃ F', qTh.r K F' c t227 ∧ Sx P0 F212 H213 F' H') ?_ ?_ ?_
                · intro b229 Q230 q231
                  have hm232 := if_t e228 b229
                  have S233 := Sx.refl0 S226.sub
                  obtain ⟨t234, e235, hm232⟩ := bd_some hm232
                  refine rd_op ?_
                  refine rd_v rfl ?_
                  refine rd_v rfl ?_
                  refine rd_ixL (S233.l f169).r e235 (fun u236 f237 => ?_)
                  cases hm232
                  exact q231 _ _ ⟨F212, f237, S233⟩
                · intro b238 Q239 q240
                  have hm241 := if_f e228 b238
                  have S242 := Sx.refl0 S226.sub
                  obtain ⟨t243, e244, hm241⟩ := bd_some hm241
                  have f245 := qO_some f40 e244
                  obtain ⟨t246, e247, hm241⟩ := bd_some hm241
                  refine rd_op ?_
                  refine rd_v rfl ?_
                  refine rd_v rfl ?_
                  refine rd_ixL (S242.l f245).r e247 (fun u248 f249 => ?_)
                  cases hm241
                  exact q240 _ _ ⟨F212, f249, S242⟩
                rintro v253 H251 ⟨F250, f254, c252⟩
                have S255 := S226.call0 c252
                have f40 := (qO (qL qTh)).mono c252.le f40
                have f__law_begins := (qL qS).mono c252.le f__law_begins
                have f__law_ends := (qL qS).mono c252.le f__law_ends
                have f114 := (qL qI).mono c252.le f114
                have f169 := (qL qTh).mono c252.le f169
                have f177 := (qO qS).mono c252.le f177
                have f_openers := (qL qPat).mono c252.le f_openers
                have f_closers := (qL qPat).mono c252.le f_closers
                have f188 := qSd.mono c252.le f188
                have w164 := w164.call0 c252
                have w190 := w190.call0 c252
                cases hm221
                exact hN224 _ _ _ _ rfl S255 f254 trivial
              intro p256 us257 F258 H259 n260 c261 w262 w263 r264
              have z265 := S200.free0 n260
              have ne266 : p__law_pool_here ≠ p256 := w164.ne n260
              have ne267 : p__law_rule ≠ p256 := w190.ne n260
              have S268 := S200.call0 c261
              have f40 := (qO (qL qTh)).mono c261.le f40
              have f__law_begins := (qL qS).mono c261.le f__law_begins
              have f__law_ends := (qL qS).mono c261.le f__law_ends
              have f114 := (qL qI).mono c261.le f114
              have f169 := (qL qTh).mono c261.le f169
              have f177 := (qO qS).mono c261.le f177
              have f_openers := (qL qPat).mono c261.le f_openers
              have f_closers := (qL qPat).mono c261.le f_closers
              have f188 := qSd.mono c261.le f188
              have w164 := w164.call0 c261
              have w190 := w190.call0 c261
              have w269 : Ow P0 H182 _ _ _ _ := ⟨w263.fr, w263.at_, .inl z265⟩
              obtain ⟨F270, S271, le272, f273, _, eq274⟩ := fz S268 w269 z265 r264
              have f40 := (qO (qL qTh)).mono le272 f40
              have f__law_begins := (qL qS).mono le272 f__law_begins
              have f__law_ends := (qL qS).mono le272 f__law_ends
              have f114 := (qL qI).mono le272 f114
              have f169 := (qL qTh).mono le272 f169
              have f177 := (qO qS).mono le272 f177
              have f_openers := (qL qPat).mono le272 f_openers
              have f_closers := (qL qPat).mono le272 f_closers
              have f188 := qSd.mono le272 f188
              have w164 := w164.fzO ne266 eq274
              have w190 := w190.fzO ne267 eq274
              have f275 : (qO (qL qTh)).r K F270 (V.ref p256) (some t204.1) := (show (qO (qL qTh)).r K F270 (V.ref p256) (some t204.1) from f273)
              cases e199
              refine rd_gn ?_
              exact ⟨F270, _, _, rfl, S271, f275⟩
            · skip
              cases e199
              refine rd_next ?_
              exact ⟨F181, _, _, rfl, S200, f40⟩
          · skip
            rintro σ277 H276 ⟨F278, x280, o281, rfl, S279, f282⟩
            have S283 := S189.call0 S279
            have f__law_begins := (qL qS).mono S279.le f__law_begins
            have f__law_ends := (qL qS).mono S279.le f__law_ends
            have f114 := (qL qI).mono S279.le f114
            have f169 := (qL qTh).mono S279.le f169
            have f177 := (qO qS).mono S279.le f177
            have f_openers := (qL qPat).mono S279.le f_openers
            have f_closers := (qL qPat).mono S279.le f_closers
            have f188 := qSd.mono S279.le f188
            have w164 := w164.call0 S279
            have w190 := w190.call0 S279
            obtain ⟨t284, e285, hm46⟩ := bd_some hm46
            refine rd_ifS ?_
            refine rd_or ?_
            refine rd_not ?_
            refine rd_tB ?_
            refine rd_call ?_
            refine rd_cons ?_
            refine rd_v rfl ?_
            refine rd_cons ?_
            refine rd_op ?_
            refine rd_v rfl ?_
            refine rd_c ?_
            refine rd_ixL (S283.l f169).r e285 (fun u286 f287 => ?_)
            obtain ⟨t288, e289, hm46⟩ := bd_some hm46
            refine rd_nil ?_
            refine ⟨F278, _, _, _, _, _, ((a__law_rule.1, a__law_rule.2.1, t179.2)), _, _, t288, rfl, S283.sub, ⟨w190.fr, w190.at_, .inr (rfl)⟩, f_openers, f_closers, f188, f287, e289, fun v293 F290 H291 u296 c292 w295 f297 f294 => ?_⟩
            have S298 := S283.call1 c292 w190
            have f282 := (qO (qL qTh)).mono c292.le f282
            have f__law_begins := (qL qS).mono c292.le f__law_begins
            have f__law_ends := (qL qS).mono c292.le f__law_ends
            have f114 := (qL qI).mono c292.le f114
            have f169 := (qL qTh).mono c292.le f169
            have f177 := (qO qS).mono c292.le f177
            have f_openers := (qL qPat).mono c292.le f_openers
            have f_closers := (qL qPat).mono c292.le f_closers
            have f188 := qSd.mono c292.le f188
            have w164 := w164.call c292 (Ne.symm nn_p__law_rule_p__law_pool_here)
            have w299 : Ow (fun a => a = p__law_pool_here ∨ a = p__law_rule) H4 _ _ _ _ := ⟨w295.fr, w295.at_, w190.mine⟩
            cases (show v293 = (V.bl (t288.1)) from f294)
            obtain ⟨t311, e312, hm46⟩ := bd_some hm46
            refine rd_b ?_
            refine or_j (fun c H' => c = t311 ∧ ∃ F', Sx P0 F290 H291 F' H') ?_ ?_ ?_
            · intro b313 Q314 q315
              have e312 := if_f e312 b313
              have S316 := Sx.refl0 S298.sub
              obtain ⟨t317, e318, e312⟩ := bd_some e312
              have f319 := qO_some f282 e318
              obtain ⟨t320, e321, e312⟩ := bd_some e312
              refine rd_not ?_
              refine rd_tB ?_
              refine rd_call ?_
              refine rd_cons ?_
              refine rd_v rfl ?_
              refine rd_cons ?_
              refine rd_v rfl ?_
              refine rd_cons ?_
              refine rd_v rfl ?_
              refine rd_cons ?_
              refine rd_v rfl ?_
              refine rd_nil ?_
              refine ⟨F290, _, _, _, _, _, ((a__law_rule.1, a__law_rule.2.1, t288.2)), _, _, _, _, _, _, t320, rfl, S316.sub, ⟨w299.fr, w299.at_, .inr (rfl)⟩, f_openers, f_closers, f297, f319, f__law_begins, f__law_ends, e321, fun v325 F322 H323 c324 f326 => ?_⟩
              have S327 := S316.call0 c324
              have f319 := (qL qTh).mono c324.le f319
              have f__law_begins := (qL qS).mono c324.le f__law_begins
              have f__law_ends := (qL qS).mono c324.le f__law_ends
              have f114 := (qL qI).mono c324.le f114
              have f169 := (qL qTh).mono c324.le f169
              have f177 := (qO qS).mono c324.le f177
              have f_openers := (qL qPat).mono c324.le f_openers
              have f_closers := (qL qPat).mono c324.le f_closers
              have f297 := qSd.mono c324.le f297
              have w164 := w164.call0 c324
              have w299 := w299.call0 c324
              cases (show v325 = (V.bl (t320)) from f326)
              cases e312
              refine rd_b ?_
              exact q315 _ _ ⟨rfl, F322, S327⟩
            · intro b313
              have e312 := if_t e312 b313
              cases e312
              have S328 := Sx.refl0 S298.sub
              exact ⟨rfl, F290, S328⟩
            rintro b332 H330 ⟨rfl, F329, c331⟩
            have S333 := S298.call0 c331
            have f282 := (qO (qL qTh)).mono c331.le f282
            have f__law_begins := (qL qS).mono c331.le f__law_begins
            have f__law_ends := (qL qS).mono c331.le f__law_ends
            have f114 := (qL qI).mono c331.le f114
            have f169 := (qL qTh).mono c331.le f169
            have f177 := (qO qS).mono c331.le f177
            have f_openers := (qL qPat).mono c331.le f_openers
            have f_closers := (qL qPat).mono c331.le f_closers
            have f297 := qSd.mono c331.le f297
            have w164 := w164.call0 c331
            have w299 := w299.call0 c331
            refine if_b hm46 (fun b334 hm46 => ?_) (fun b334 hm46 => ?_)
            · skip
              cases hm46
              have e335 := hrt45 _ rfl
              subst e335
              have hm := aft_rt hm
              have S336 := S12.call S333 (by
                  rintro a (rfl | rfl)
                  · exact w13.mine.symm
                  · exact w14.mine.symm)
              have w337 : Ow (fun a => a = p__law_rule ∨ a = p__law_pool_here) H0 _ _ _ _ := ⟨w164.fr, w164.at_, w13.mine⟩
              have w338 : Ow (fun a => a = p__law_rule ∨ a = p__law_pool_here) H0 _ _ _ _ := ⟨w299.fr, w299.at_, w14.mine⟩
              cases hm
              refine rd_ret ?_
              refine rd_c ?_
              exact hQ _ _ _ _ S336 w338 f297 w337 rfl
            · skip
              cases hm46
              refine rd_next ?_
              exact ⟨_, rfl, ⟨F329, _, _, _, _, _, _, _, rfl, S333, f282, w299, f297, w164⟩⟩
      · skip
        rintro s341 σ339 H340 e342 ⟨F343, x345, o346, o347, o348, o349, o350, u351, rfl, S344, f352, r353, r354, w355⟩
        subst e342
        have hm := aft_nx hm
        have S356 := S12.call S344 (by
            rintro a (rfl | rfl)
            · exact w13.mine.symm
            · exact w14.mine.symm)
        have f__law_begins := (qL qS).mono S344.le f__law_begins
        have f__law_ends := (qL qS).mono S344.le f__law_ends
        have f_openers := (qL qPat).mono S344.le f_openers
        have f_closers := (qL qPat).mono S344.le f_closers
        have f11 := qSd.mono S344.le f11
        have w357 : Ow (fun a => a = p__law_rule ∨ a = p__law_pool_here) H0 _ _ _ _ := ⟨w355.fr, w355.at_, w13.mine⟩
        have w358 : Ow (fun a => a = p__law_rule ∨ a = p__law_pool_here) H0 _ _ _ _ := ⟨r353.fr, r353.at_, w14.mine⟩
        cases hm
        refine rd_ret ?_
        refine rd_c ?_
        exact hQ _ _ _ _ S356 w358 r354 w357 rfl
def sp_law_rules (K : PySem.W.Frag) : Sp := fun vs H Q _ => ∃ (F : Hp) (p__law_pool_here : Addr) (a__law_pool_here : Int × Int) (v__law_begins : V) (a__law_begins : (List Pat)) (v__law_ends : V) (a__law_ends : (List Pat)) (v__law_values : V) (a__law_values : (List Th)) (r : (Bool × (Int × Int))), vs = [.ref p__law_pool_here, v__law_begins, v__law_ends, v__law_values] ∧ Same F H ∧ Ow (fun a => a = p__law_pool_here) H F H p__law_pool_here (.lst [.int a__law_pool_here.1, .int a__law_pool_here.2]) ∧ (qL qPat).r K F v__law_begins a__law_begins ∧ (qL qPat).r K F v__law_ends a__law_ends ∧ (qL qTh).r K F v__law_values a__law_values ∧ m_law_rules a__law_pool_here a__law_begins a__law_ends a__law_values = some r ∧ ∀ v F' H', Sx (fun a => a = p__law_pool_here) F H F' H' → Ow (fun a => a = p__law_pool_here) H F' H' p__law_pool_here (.lst [.int r.2.1, .int r.2.2]) → qB.r K F' v r.1 → Q v H'
theorem sc_law_rules : FnScope ["_law_pool_here", "_law_begins", "_law_ends", "_law_values", "_law_texts", "_law_given", "_law_rule", "_law_twin", "_law_spoiled", "_law_mark"] ["_law_pool_here", "_law_begins", "_law_ends", "_law_values"] (defScope s_law_rules) := ⟨rfl, rfl, rfl, by decide +kernel, rfl, by decide +kernel, by decide +kernel⟩
theorem bn_law_rules (T : Tx P K mg) : Binds K (fdOf K ("_law_rules", none)) ["_law_pool_here", "_law_begins", "_law_ends", "_law_values"] [] := FunD.bindsN T.F_law_rules fun _ _ _ _ _ _ us hl => match us, hl with | [_, _, _, _], _ => rfl
theorem ok_law_rules (T : Tx P K mg) : FnOk P w K mg base CX0 16 (He.ga K "_law_rules") (fdOf K ("_law_rules", none)) ["_law_pool_here", "_law_begins", "_law_ends", "_law_values"] (sp_law_rules K) := by
  refine FunD.ok T.F_law_rules sc_law_rules (fun vs H0 Q E h => ?_) (fun cdv A outer s H0 vs Q E hr h => ?_)
  · obtain ⟨_, _, _, _, _, _, _, _, _, _, rfl, _⟩ := h
    rfl
  · obtain ⟨F0, p__law_pool_here, a__law_pool_here, v__law_begins, a__law_begins, v__law_ends, a__law_ends, v__law_values, a__law_values, r, rfl, hE, w__law_pool_here, f__law_begins, f__law_ends, f__law_values, hm, hQ⟩ := h
    refine ⟨_, PSs.nox ((pss_cons (ps_set (i := 4) sc_law_rules.nd rfl (dk rfl) (pe_lst (pa_cons (pe_lc (own := [("_law_mark", 9)]) (tt := tYes) rfl sc_law_rules.nd (pi_listK (pv 1)) (blkOk_by (N := ["_law_pool_here", "_law_begins", "_law_ends", "_law_values", "_law_texts", "_law_given", "_law_rule", "_law_twin", "_law_spoiled", "_law_mark"]) (sc := defScope s_law_rules) (by decide +kernel)) (fun _ _ _ _ _ => pg_name (i := 9) sc_law_rules.nd rfl (Or.inl rfl)) (fun _ _ _ _ _ => pts_nil) (fun _ _ _ _ _ => (pe_callTy (r := rStrW P w K mg base 10) (cr_strW (hr.mono (by decide))) (by rfl) T.n_str (by decide +kernel) (pa_cons (pv 9) pa_nil)))) (pa_cons (pe_lc (own := [("_law_mark", 9)]) (tt := tYes) rfl sc_law_rules.nd (pi_listK (pv 2)) (blkOk_by (N := ["_law_pool_here", "_law_begins", "_law_ends", "_law_values", "_law_texts", "_law_given", "_law_rule", "_law_twin", "_law_spoiled", "_law_mark"]) (sc := defScope s_law_rules) (by decide +kernel)) (fun _ _ _ _ _ => pg_name (i := 9) sc_law_rules.nd rfl (Or.inl rfl)) (fun _ _ _ _ _ => pts_nil) (fun _ _ _ _ _ => (pe_callTy (r := rStrW P w K mg base 10) (cr_strW (hr.mono (by decide))) (by rfl) T.n_str (by decide +kernel) (pa_cons (pv 9) pa_nil)))) pa_nil)))) (pss_cons (ps_set (i := 5) sc_law_rules.nd rfl (dk rfl) (pe_lst (pa_cons (pe_callTy (r := rListQ K) cr_listQ (by rfl) T.n_list (by decide +kernel) (pa_cons (pv 1) pa_nil)) (pa_cons (pe_callTy (r := rListQ K) cr_listQ (by rfl) T.n_list (by decide +kernel) (pa_cons (pv 2) pa_nil)) pa_nil)))) (pss_cons (ps_set (i := 6) sc_law_rules.nd rfl (dk rfl) (pe_makeK T.mk_Rule (ok_Rule___init__ T) (hr.mono (by decide)) (by rfl) T.gc_Rule (kb_Rule___init___0 T).choose_spec pass0 (pa_cons (pe_ix (r := rIxL K) ix_list (pv 5) pe_int (fun _ _ => rfl)) (pa_cons (pe_ix (r := rIxL K) ix_list (pv 5) pe_int (fun _ _ => rfl)) pa_nil)) (pk_cons (pe_ix (r := rIxL K) ix_list (pv 3) pe_int (fun _ _ => rfl)) (pk_cons (pe_ix (r := rIxL K) ix_list (pv 3) pe_int (fun _ _ => rfl)) (pk_cons (pe_ix (r := rIxL K) ix_list (pv 3) pe_int (fun _ _ => rfl)) (pk_cons (pe_ix (r := rIxL K) ix_list (pv 3) pe_int (fun _ _ => rfl)) pk_nil)))))) (pss_cons (ps_set (i := 7) sc_law_rules.nd rfl (dk rfl) (pe_make T.mk_Rule (ok_Rule___init__ T) (hr.mono (by decide)) (by rfl) T.gc_Rule (kd_Rule___init__ T).choose_spec.2 (kd_Rule___init__ T).choose_spec.1 pass0 (pa_cons (pe_callTy (r := rListQ K) cr_listQ (by rfl) T.n_list (by decide +kernel) (pa_cons (pv 1) pa_nil)) (pa_cons (pe_callTy (r := rListQ K) cr_listQ (by rfl) T.n_list (by decide +kernel) (pa_cons (pv 2) pa_nil)) pa_nil)))) (pss_cons (ps_expr (pe_bmK (K := K) PySem.F.plainAttrs_list PySem.F.slot_list_append PySem.F.type_list_append mt_append (pe_ix (r := rIxL K) ix_list (pv 5) pe_int (fun _ _ => rfl)) (pa_cons (StX.pe_makeR T.mk_Form (ok_Form___init__ T) (hr.mono (by decide)) (by rfl) T.gc_Form pass0 (pa_cons pe_str pa_nil)) pa_nil))) (pss_cons (ps_expr (pe_bm0K (K := K) PySem.F.plainAttrs_list PySem.F.slot_list_clear PySem.F.type_list_clear mt_clear (pe_ix (r := rIxL K) ix_list (pv 5) pe_int (fun _ _ => rfl)))) (pss_cons (ps_set (i := 8) sc_law_rules.nd rfl (dk rfl) (pe_meth0 (pv 6) T.c_Rule T.me_Rule_begins (ok_Rule_begins_vo T) (hr.mono (by decide)) (bn_Rule_begins_vo T) .nil pass0)) (pss_cons (ps_expr (pe_bmK (K := K) PySem.F.plainAttrs_list PySem.F.slot_list_append PySem.F.type_list_append mt_append (pv 8) (pa_cons (StX.pe_makeR T.mk_Form (ok_Form___init__ T) (hr.mono (by decide)) (by rfl) T.gc_Form pass0 (pa_cons pe_str pa_nil)) pa_nil))) (pss_cons (ps_set (i := 8) sc_law_rules.nd rfl (dk rfl) (pe_meth0 (pv 6) T.c_Rule T.me_Rule_ends (ok_Rule_ends_vo T) (hr.mono (by decide)) (bn_Rule_ends_vo T) .nil pass0)) (pss_cons (ps_expr (pe_bmK (K := K) PySem.F.plainAttrs_list PySem.F.slot_list_append PySem.F.type_list_append mt_append (pv 8) (pa_cons (StX.pe_makeR T.mk_Form (ok_Form___init__ T) (hr.mono (by decide)) (by rfl) T.gc_Form pass0 (pa_cons pe_str pa_nil)) pa_nil))) (pss_cons (ps_if (pt_not (pt_val (pe_call (ok_law_tells T) (hr.mono (by decide)) (by rfl) T.g_law_tells T.F_law_tells.kp (bn_law_tells T) .nil pass0 (pa_cons (pv 6) (pa_cons (pv 3) (pa_cons (pe_ix (r := rIxL K) ix_list (pv 4) pe_int (fun _ _ => rfl)) (pa_cons (pe_ix (r := rIxL K) ix_list (pv 4) pe_int (fun _ _ => rfl)) pa_nil))))))) (pss_one (ps_ret pe_bl)) pss_nil) (pss_cons (ps_if (pt_not (pt_val (pe_call (ok_law_changes T) (hr.mono (by decide)) (by rfl) T.g_law_changes T.F_law_changes.kp (bn_law_changes T) .nil pass0 (pa_cons (pv 0) (pa_cons (pv 6) (pa_cons (pv 3) (pa_cons (pe_ix (r := rIxL K) ix_list (pv 4) pe_int (fun _ _ => rfl)) (pa_cons (pe_ix (r := rIxL K) ix_list (pv 4) pe_int (fun _ _ => rfl)) pa_nil)))))))) (pss_one (ps_ret pe_bl)) pss_nil) (pss_one (ps_ret (pe_call (ok_law_tells T) (hr.mono (by decide)) (by rfl) T.g_law_tells T.F_law_tells.kp (bn_law_tells T) .nil pass0 (pa_cons (pv 7) (pa_cons (pe_lst (pa_cons pe_non (pa_cons pe_bl (pa_cons pe_non (pa_cons pe_bl pa_nil))))) (pa_cons (pe_ix (r := rIxL K) ix_list (pv 4) pe_int (fun _ _ => rfl)) (pa_cons (pe_ix (r := rIxL K) ix_list (pv 4) pe_int (fun _ _ => rfl)) pa_nil)))))))))))))))))))), ?_⟩
    have S : Sx (fun a => a = p__law_pool_here) F0 H0 F0 H0 := Sx.refl hE (live1 w__law_pool_here)
    unfold m_law_rules at hm
    refine rd_seq ?_
    refine rd_asg ?_
    refine rd_lst ?_
    refine rd_cons ?_
    refine rd_lc ?_
    refine rd_iL ?_
    refine rd_v rfl ?_
    refine rd_wLF S (f__law_begins) (fun p1 vs2 hq3 row4 => ?_)
    obtain ⟨g5, hm⟩ := gd_some hm
    obtain ⟨t6, e7, hm⟩ := bd_some hm
    refine rd_comp (B := qS) feedsL (typedRow row4) e7 g5 (Pc := P0) (fun _ z => z.elim) S.sub (fun (s8 : Unit) F H => True) ?_ ?_ ?_ ?_ ?_ ?_
    · intro _ _ _ S9 _
      exact (Same.seq S9.sub (Same.seq S9.le hq3))
    · trivial
    · intros; trivial
    · intros; trivial
    · skip
      intro x10 v11 s12 o13 F14 H15 d16 acc17 f18 S19 w20 w21 n22 hm23 E24 N25 hN26 hE27
      have f__law_begins := (qL qPat).mono S19.le f__law_begins
      have f__law_ends := (qL qPat).mono S19.le f__law_ends
      have f__law_values := (qL qTh).mono S19.le f__law_values
      have w__law_pool_here := w__law_pool_here.call0 S19
      have S28 := Sx.refl0 S19.sub
      unfold m_law_rules_b1 at hm23
      have f18 := qPat.mono S19.le f18
      refine rd_gn ?_
      refine rd_wp rfl ?_
      refine rd_yes ?_
      refine if_tt ?_
      refine rd_cb ?_
      refine rd_cons ?_
      refine rd_v rfl ?_
      refine rd_nil ?_
      refine VM.strW (vm_str T 3) S28 f18 ?_
      obtain ⟨t29, e30, hm23⟩ := bd_some hm23
      refine ⟨F14, _, _, t29, rfl, S28.sub, f18, rfl, e30, fun v34 F31 H32 c33 f35 => ?_⟩
      have S36 := S28.call0 c33
      have f__law_begins := (qL qPat).mono c33.le f__law_begins
      have f__law_ends := (qL qPat).mono c33.le f__law_ends
      have f__law_values := (qL qTh).mono c33.le f__law_values
      have f18 := qPat.mono c33.le f18
      have w__law_pool_here := w__law_pool_here.call0 c33
      cases (show v34 = (V.str (t29)) from f35)
      cases hm23
      refine rd_stK ?_
      exact hN26 _ _ _ _ rfl S36 rfl trivial
    intro p37 us38 F39 H40 n41 c42 w43 w44 r45
    have z46 := S.free0 n41
    have ne47 : p__law_pool_here ≠ p37 := w__law_pool_here.ne n41
    have S48 := S.call0 c42
    have f__law_begins := (qL qPat).mono c42.le f__law_begins
    have f__law_ends := (qL qPat).mono c42.le f__law_ends
    have f__law_values := (qL qTh).mono c42.le f__law_values
    have w__law_pool_here := w__law_pool_here.call0 c42
    have w49 : Ow (fun a => a = p__law_pool_here) H0 _ _ _ _ := ⟨w44.fr, w44.at_, .inl z46⟩
    obtain ⟨F50, S51, le52, f53, _, eq54⟩ := fz S48 w49 z46 r45
    have f__law_begins := (qL qPat).mono le52 f__law_begins
    have f__law_ends := (qL qPat).mono le52 f__law_ends
    have f__law_values := (qL qTh).mono le52 f__law_values
    have w__law_pool_here := w__law_pool_here.fzO ne47 eq54
    refine rd_cons ?_
    refine rd_lc ?_
    refine rd_iL ?_
    refine rd_v rfl ?_
    refine rd_wLF S51 (f__law_ends) (fun p55 vs56 hq57 row58 => ?_)
    obtain ⟨g59, hm⟩ := gd_some hm
    obtain ⟨t60, e61, hm⟩ := bd_some hm
    refine rd_comp (B := qS) feedsL (typedRow row58) e61 g59 (Pc := P0) (fun _ z => z.elim) S51.sub (fun (s62 : Unit) F H => True) ?_ ?_ ?_ ?_ ?_ ?_
    · intro _ _ _ S63 _
      exact (Same.seq S63.sub (Same.seq S63.le hq57))
    · trivial
    · intros; trivial
    · intros; trivial
    · skip
      intro x64 v65 s66 o67 F68 H69 d70 acc71 f72 S73 w74 w75 n76 hm77 E78 N79 hN80 hE81
      have f__law_begins := (qL qPat).mono S73.le f__law_begins
      have f__law_ends := (qL qPat).mono S73.le f__law_ends
      have f__law_values := (qL qTh).mono S73.le f__law_values
      have f53 := (qL qS).mono S73.le f53
      have w__law_pool_here := w__law_pool_here.call0 S73
      have S82 := Sx.refl0 S73.sub
      unfold m_law_rules_b2 at hm77
      have f72 := qPat.mono S73.le f72
      refine rd_gn ?_
      refine rd_wp rfl ?_
      refine rd_yes ?_
      refine if_tt ?_
      refine rd_cb ?_
      refine rd_cons ?_
      refine rd_v rfl ?_
      refine rd_nil ?_
      refine VM.strW (vm_str T 3) S82 f72 ?_
      obtain ⟨t83, e84, hm77⟩ := bd_some hm77
      refine ⟨F68, _, _, t83, rfl, S82.sub, f72, rfl, e84, fun v88 F85 H86 c87 f89 => ?_⟩
      have S90 := S82.call0 c87
      have f__law_begins := (qL qPat).mono c87.le f__law_begins
      have f__law_ends := (qL qPat).mono c87.le f__law_ends
      have f__law_values := (qL qTh).mono c87.le f__law_values
      have f72 := qPat.mono c87.le f72
      have f53 := (qL qS).mono c87.le f53
      have w__law_pool_here := w__law_pool_here.call0 c87
      cases (show v88 = (V.str (t83)) from f89)
      cases hm77
      refine rd_stK ?_
      exact hN80 _ _ _ _ rfl S90 rfl trivial
    intro p91 us92 F93 H94 n95 c96 w97 w98 r99
    have z100 := S51.free0 n95
    have ne101 : p__law_pool_here ≠ p91 := w__law_pool_here.ne n95
    have S102 := S51.call0 c96
    have f__law_begins := (qL qPat).mono c96.le f__law_begins
    have f__law_ends := (qL qPat).mono c96.le f__law_ends
    have f__law_values := (qL qTh).mono c96.le f__law_values
    have f53 := (qL qS).mono c96.le f53
    have w__law_pool_here := w__law_pool_here.call0 c96
    have w103 : Ow (fun a => a = p__law_pool_here) H0 _ _ _ _ := ⟨w98.fr, w98.at_, .inl z100⟩
    obtain ⟨F104, S105, le106, f107, _, eq108⟩ := fz S102 w103 z100 r99
    have f__law_begins := (qL qPat).mono le106 f__law_begins
    have f__law_ends := (qL qPat).mono le106 f__law_ends
    have f__law_values := (qL qTh).mono le106 f__law_values
    have f53 := (qL qS).mono le106 f53
    have w__law_pool_here := w__law_pool_here.fzO ne101 eq108
    refine rd_nil ?_
    refine rd_lK rfl ?_
    refine alL (K := K) (A := (qL qS)) (xs := [t6.1, t60.1]) S105 (.cons f53 (.cons f107 .nil)) (fun v109 F110 H111 c112 f113 => ?_)
    have S114 := S105.call0 c112
    have f__law_begins := (qL qPat).mono c112.le f__law_begins
    have f__law_ends := (qL qPat).mono c112.le f__law_ends
    have f__law_values := (qL qTh).mono c112.le f__law_values
    have w__law_pool_here := w__law_pool_here.call0 c112
    refine rd_gn ?_
    refine rd_seq ?_
    refine rd_asg ?_
    refine rd_lst ?_
    refine rd_cons ?_
    refine rd_cb ?_
    refine rd_cons ?_
    refine rd_v rfl ?_
    refine rd_nil ?_
    refine rd_listQ (S114.l f__law_begins).r.q ?_
    refine alO' S114 (fun p115 us116 H117 np118 c119 w120 r121 => ?_)
    have ne122 : p__law_pool_here ≠ p115 := w__law_pool_here.ne np118
    have z123 := S114.free0 np118
    have S124 := S114.call0 c119
    have f__law_begins := (qL qPat).mono c119.le f__law_begins
    have f__law_ends := (qL qPat).mono c119.le f__law_ends
    have f__law_values := (qL qTh).mono c119.le f__law_values
    have f113 := (qL (qL qS)).mono c119.le f113
    have w__law_pool_here := w__law_pool_here.call0 c119
    refine rd_cons ?_
    refine rd_cb ?_
    refine rd_cons ?_
    refine rd_v rfl ?_
    refine rd_nil ?_
    refine rd_listQ (S124.l f__law_ends).r.q ?_
    refine alO' S124 (fun p125 us126 H127 np128 c129 w130 r131 => ?_)
    have ne132 : p__law_pool_here ≠ p125 := w__law_pool_here.ne np128
    have ne133 : p115 ≠ p125 := w120.ne np128
    have z134 := S124.free0 np128
    have S135 := S124.call0 c129
    have f__law_begins := (qL qPat).mono c129.le f__law_begins
    have f__law_ends := (qL qPat).mono c129.le f__law_ends
    have f__law_values := (qL qTh).mono c129.le f__law_values
    have f113 := (qL (qL qS)).mono c129.le f113
    have w__law_pool_here := w__law_pool_here.call0 c129
    have r121 := Row.mono c129.le r121
    have w120 := w120.call0 c129
    refine rd_nil ?_
    refine rd_lK rfl ?_
    refine al S135 (fun p136 H137 np138 c139 w140 => ?_)
    have ne141 : p__law_pool_here ≠ p136 := w__law_pool_here.ne np138
    have ne142 : p115 ≠ p136 := w120.ne np138
    have ne143 : p125 ≠ p136 := w130.ne np138
    have z144 := S135.free0 np138
    have S145 := S135.call0 c139
    have f__law_begins := (qL qPat).mono c139.le f__law_begins
    have f__law_ends := (qL qPat).mono c139.le f__law_ends
    have f__law_values := (qL qTh).mono c139.le f__law_values
    have f113 := (qL (qL qS)).mono c139.le f113
    have w__law_pool_here := w__law_pool_here.call0 c139
    have r121 := Row.mono c139.le r121
    have w120 := w120.call0 c139
    have r131 := Row.mono c139.le r131
    have w130 := w130.call0 c139
    obtain ⟨t146, e147, hm⟩ := bd_some hm
    refine rd_gn ?_
    refine rd_seq ?_
    refine rd_asg ?_
    refine rd_makeK ?_
    refine rd_cons ?_
    refine rd_op ?_
    refine rd_v rfl ?_
    refine rd_c ?_
    refine rd_ixO w140 (u := (V.ref p115)) (by rfl) ?_
    refine rd_cons ?_
    refine rd_op ?_
    refine rd_v rfl ?_
    refine rd_c ?_
    refine rd_ixO w140 (u := (V.ref p125)) (by rfl) ?_
    refine rd_nil ?_
    refine rd_cons ?_
    refine rd_op ?_
    refine rd_v rfl ?_
    refine rd_c ?_
    refine rd_ixL (S145.l f__law_values).r e147 (fun u148 f149 => ?_)
    obtain ⟨t150, e151, hm⟩ := bd_some hm
    refine rd_cons ?_
    refine rd_op ?_
    refine rd_v rfl ?_
    refine rd_c ?_
    refine rd_ixL (S145.l f__law_values).r e151 (fun u152 f153 => ?_)
    obtain ⟨t154, e155, hm⟩ := bd_some hm
    refine rd_cons ?_
    refine rd_op ?_
    refine rd_v rfl ?_
    refine rd_c ?_
    refine rd_ixL (S145.l f__law_values).r e155 (fun u156 f157 => ?_)
    obtain ⟨t158, e159, hm⟩ := bd_some hm
    refine rd_cons ?_
    refine rd_op ?_
    refine rd_v rfl ?_
    refine rd_c ?_
    refine rd_ixL (S145.l f__law_values).r e159 (fun u160 f161 => ?_)
    obtain ⟨t162, e163, hm⟩ := bd_some hm
    obtain ⟨g179, hm⟩ := gd_some hm
    refine rd_nil ?_
    refine mkk_at (rest := [(V.ref p115), (V.ref p125), u148, u152, u156, u160]) rfl rfl (fun _ => rfl) ?_
    refine new_Rule_vol S145 w120 r121 w130 r131 f149 f153 f157 f161 e163 g179 (fun g169 dx170 u173 u174 u175 F165 H166 hn171 c167 w172 f176 f177 f178 => ?_)
    have ne180 : p__law_pool_here ≠ g169 := w__law_pool_here.ne hn171
    have ne181 : p115 ≠ g169 := w120.ne hn171
    have ne182 : p125 ≠ g169 := w130.ne hn171
    have ne183 : p136 ≠ g169 := w140.ne hn171
    have z184 := S145.free0 hn171
    have S185 := S145.call0 c167
    have f__law_begins := (qL qPat).mono c167.le f__law_begins
    have f__law_ends := (qL qPat).mono c167.le f__law_ends
    have f__law_values := (qL qTh).mono c167.le f__law_values
    have f113 := (qL (qL qS)).mono c167.le f113
    have w__law_pool_here := w__law_pool_here.call0 c167
    have r121 := Row.mono c167.le r121
    have w120 := w120.call0 c167
    have r131 := Row.mono c167.le r131
    have w130 := w130.call0 c167
    have w140 := w140.call0 c167
    have w186 : Ow (fun a => a = p__law_pool_here) H0 _ _ _ _ := ⟨w172.fr, w172.at_, .inl z184⟩
    refine rd_gn ?_
    refine rd_seq ?_
    refine rd_asg ?_
    refine rd_makeD ?_
    refine rd_cons ?_
    refine rd_cb ?_
    refine rd_cons ?_
    refine rd_v rfl ?_
    refine rd_nil ?_
    refine rd_listQ (S185.l f__law_begins).r.q ?_
    refine alL' S185 (fun v187 F188 H189 c190 f191 => ?_)
    have S192 := S185.call0 c190
    have f__law_begins := (qL qPat).mono c190.le f__law_begins
    have f__law_ends := (qL qPat).mono c190.le f__law_ends
    have f__law_values := (qL qTh).mono c190.le f__law_values
    have f113 := (qL (qL qS)).mono c190.le f113
    have f176 := (qL qPat).mono c190.le f176
    have f177 := (qL qPat).mono c190.le f177
    have f178 := qSd.mono c190.le f178
    have w__law_pool_here := w__law_pool_here.call0 c190
    have r121 := Row.mono c190.le r121
    have w120 := w120.call0 c190
    have r131 := Row.mono c190.le r131
    have w130 := w130.call0 c190
    have w140 := w140.call0 c190
    have w186 := w186.call0 c190
    refine rd_cons ?_
    refine rd_cb ?_
    refine rd_cons ?_
    refine rd_v rfl ?_
    refine rd_nil ?_
    refine rd_listQ (S192.l f__law_ends).r.q ?_
    refine alL' S192 (fun v193 F194 H195 c196 f197 => ?_)
    have S198 := S192.call0 c196
    have f__law_begins := (qL qPat).mono c196.le f__law_begins
    have f__law_ends := (qL qPat).mono c196.le f__law_ends
    have f__law_values := (qL qTh).mono c196.le f__law_values
    have f113 := (qL (qL qS)).mono c196.le f113
    have f191 := (qL qPat).mono c196.le f191
    have f176 := (qL qPat).mono c196.le f176
    have f177 := (qL qPat).mono c196.le f177
    have f178 := qSd.mono c196.le f178
    have w__law_pool_here := w__law_pool_here.call0 c196
    have r121 := Row.mono c196.le r121
    have w120 := w120.call0 c196
    have r131 := Row.mono c196.le r131
    have w130 := w130.call0 c196
    have w140 := w140.call0 c196
    have w186 := w186.call0 c196
    obtain ⟨t199, e200, hm⟩ := bd_some hm
    refine rd_nil ?_
    refine mkd_at (rest := [v187, v193, (V.non), (V.bl true), (V.non), (V.bl false)]) rfl ?_
    refine new_Rule_vo S198 f191 f197 (show qTh.r K F194 (V.non) (Th.d .none) from Dp.non) (show qTh.r K F194 (V.bl true) (Th.d (.bool true)) from Dp.bl _) (show qTh.r K F194 (V.non) (Th.d .none) from Dp.non) (show qTh.r K F194 (V.bl false) (Th.d (.bool false)) from Dp.bl _) e200 (fun g206 dx207 u210 u211 u212 F202 H203 hn208 c204 w209 f213 f214 f215 => ?_)
    have ne216 : p__law_pool_here ≠ g206 := w__law_pool_here.ne hn208
    have ne217 : p115 ≠ g206 := w120.ne hn208
    have ne218 : p125 ≠ g206 := w130.ne hn208
    have ne219 : p136 ≠ g206 := w140.ne hn208
    have ne220 : g169 ≠ g206 := w186.ne hn208
    have z221 := S198.free0 hn208
    have S222 := S198.call0 c204
    have f__law_begins := (qL qPat).mono c204.le f__law_begins
    have f__law_ends := (qL qPat).mono c204.le f__law_ends
    have f__law_values := (qL qTh).mono c204.le f__law_values
    have f113 := (qL (qL qS)).mono c204.le f113
    have f176 := (qL qPat).mono c204.le f176
    have f177 := (qL qPat).mono c204.le f177
    have f178 := qSd.mono c204.le f178
    have w__law_pool_here := w__law_pool_here.call0 c204
    have r121 := Row.mono c204.le r121
    have w120 := w120.call0 c204
    have r131 := Row.mono c204.le r131
    have w130 := w130.call0 c204
    have w140 := w140.call0 c204
    have w186 := w186.call0 c204
    have w223 : Ow (fun a => a = p__law_pool_here) H0 _ _ _ _ := ⟨w209.fr, w209.at_, .inl z221⟩
    obtain ⟨t224, e225, hm⟩ := bd_some hm
    refine rd_gn ?_
    refine rd_seq ?_
    refine rd_drop ?_
    refine rd_bm ?_
    refine rd_op ?_
    refine rd_v rfl ?_
    refine rd_c ?_
    refine rd_ixO w140 (u := (V.ref p115)) (by rfl) ?_
    refine rd_ty w120.ty ?_
    refine rd_cons ?_
    refine rd_makeR ?_
    refine rd_cons ?_
    refine rd_c ?_
    refine rd_nil ?_
    refine new_Form S222 (.cons rfl .nil) rfl e225 (fun v226 F227 H228 c229 f230 => ?_)
    have S231 := S222.call0 c229
    have f__law_begins := (qL qPat).mono c229.le f__law_begins
    have f__law_ends := (qL qPat).mono c229.le f__law_ends
    have f__law_values := (qL qTh).mono c229.le f__law_values
    have f113 := (qL (qL qS)).mono c229.le f113
    have f176 := (qL qPat).mono c229.le f176
    have f177 := (qL qPat).mono c229.le f177
    have f178 := qSd.mono c229.le f178
    have f213 := (qL qPat).mono c229.le f213
    have f214 := (qL qPat).mono c229.le f214
    have f215 := qSd.mono c229.le f215
    have w__law_pool_here := w__law_pool_here.call0 c229
    have r121 := Row.mono c229.le r121
    have w120 := w120.call0 c229
    have r131 := Row.mono c229.le r131
    have w130 := w130.call0 c229
    have w140 := w140.call0 c229
    have w186 := w186.call0 c229
    have w223 := w223.call0 c229
    have f232 : qPat.r K F227 v226 (Pat.form t224) := (show qPat.r K F227 v226 _ from f230)
    obtain ⟨g233, hm⟩ := gd_some hm
    refine rd_nil ?_
    refine ap S231 w120 r121 g233 (fun H234 c235 w236 => ?_)
    have r237 := r121.snoc (show qPat.r K F227 _ (Pat.form t224) from f232)
    have S238 := S231.call1 c235 w120
    have f__law_begins := (qL qPat).mono c235.le f__law_begins
    have f__law_ends := (qL qPat).mono c235.le f__law_ends
    have f__law_values := (qL qTh).mono c235.le f__law_values
    have f113 := (qL (qL qS)).mono c235.le f113
    have f176 := (qL qPat).mono c235.le f176
    have f177 := (qL qPat).mono c235.le f177
    have f178 := qSd.mono c235.le f178
    have f213 := (qL qPat).mono c235.le f213
    have f214 := (qL qPat).mono c235.le f214
    have f215 := qSd.mono c235.le f215
    have w__law_pool_here := w__law_pool_here.call c235 (by intro z; exact ne122 z)
    have r237 := Row.mono c235.le r237
    have r131 := Row.mono c235.le r131
    have w130 := w130.call c235 (by intro z; exact (Ne.symm ne133) z)
    have w140 := w140.call c235 (by intro z; exact (Ne.symm ne142) z)
    have w186 := w186.call c235 (by intro z; exact (Ne.symm ne181) z)
    have w223 := w223.call c235 (by intro z; exact (Ne.symm ne217) z)
    refine rd_seq ?_
    refine rd_drop ?_
    refine rd_bm0 ?_
    refine rd_op ?_
    refine rd_v rfl ?_
    refine rd_c ?_
    refine rd_ixO w140 (u := (V.ref p125)) (by rfl) ?_
    refine rd_ty w130.ty ?_
    refine rd_clear S238 w130 r131 (fun H239 c240 w241 r242 => ?_)
    have S243 := S238.call1 c240 w130
    have f__law_begins := (qL qPat).mono c240.le f__law_begins
    have f__law_ends := (qL qPat).mono c240.le f__law_ends
    have f__law_values := (qL qTh).mono c240.le f__law_values
    have f113 := (qL (qL qS)).mono c240.le f113
    have f176 := (qL qPat).mono c240.le f176
    have f177 := (qL qPat).mono c240.le f177
    have f178 := qSd.mono c240.le f178
    have f213 := (qL qPat).mono c240.le f213
    have f214 := (qL qPat).mono c240.le f214
    have f215 := qSd.mono c240.le f215
    have w__law_pool_here := w__law_pool_here.call c240 (by intro z; exact ne132 z)
    have r237 := Row.mono c240.le r237
    have w236 := w236.call c240 (by intro z; exact ne133 z)
    have r242 := Row.mono c240.le r242
    have w140 := w140.call c240 (by intro z; exact (Ne.symm ne143) z)
    have w186 := w186.call c240 (by intro z; exact (Ne.symm ne182) z)
    have w223 := w223.call c240 (by intro z; exact (Ne.symm ne218) z)
    refine rd_seq ?_
    refine rd_asg ?_
    refine rd_meth ?_
    refine rd_v rfl ?_
    refine mt_at w186.at_ (by rfl) ?_
    obtain ⟨t244, e245, hm⟩ := bd_some hm
    refine rd_nil ?_
    refine ⟨F227, _, _, _, _, _, ((t162.1, t162.2.1, t162.2.2)), t244, rfl, S243.sub, ⟨w186.fr, w186.at_, .inr (rfl)⟩, f176, f177, f178, e245, fun p249 us250 F246 H247 np251 c248 w252 r253 => ?_⟩
    have ne254 : p__law_pool_here ≠ p249 := w__law_pool_here.ne np251
    have ne255 : p115 ≠ p249 := w236.ne np251
    have ne256 : p125 ≠ p249 := w241.ne np251
    have ne257 : p136 ≠ p249 := w140.ne np251
    have ne258 : g169 ≠ p249 := w186.ne np251
    have ne259 : g206 ≠ p249 := w223.ne np251
    have z260 := S243.free0 np251
    have S261 := S243.call0 c248
    have f__law_begins := (qL qPat).mono c248.le f__law_begins
    have f__law_ends := (qL qPat).mono c248.le f__law_ends
    have f__law_values := (qL qTh).mono c248.le f__law_values
    have f113 := (qL (qL qS)).mono c248.le f113
    have f176 := (qL qPat).mono c248.le f176
    have f177 := (qL qPat).mono c248.le f177
    have f178 := qSd.mono c248.le f178
    have f213 := (qL qPat).mono c248.le f213
    have f214 := (qL qPat).mono c248.le f214
    have f215 := qSd.mono c248.le f215
    have w__law_pool_here := w__law_pool_here.call0 c248
    have r237 := Row.mono c248.le r237
    have w236 := w236.call0 c248
    have r242 := Row.mono c248.le r242
    have w241 := w241.call0 c248
    have w140 := w140.call0 c248
    have w186 := w186.call0 c248
    have w223 := w223.call0 c248
    have w262 : Ow (fun a => a = p__law_pool_here) H0 _ _ _ _ := ⟨w252.fr, w252.at_, .inl z260⟩
    obtain ⟨t263, e264, hm⟩ := bd_some hm
    refine rd_gn ?_
    refine rd_seq ?_
    refine rd_drop ?_
    refine rd_bm ?_
    refine rd_v rfl ?_
    refine rd_ty w262.ty ?_
    refine rd_cons ?_
    refine rd_makeR ?_
    refine rd_cons ?_
    refine rd_c ?_
    refine rd_nil ?_
    refine new_Form S261 (.cons rfl .nil) rfl e264 (fun v265 F266 H267 c268 f269 => ?_)
    have S270 := S261.call0 c268
    have f__law_begins := (qL qPat).mono c268.le f__law_begins
    have f__law_ends := (qL qPat).mono c268.le f__law_ends
    have f__law_values := (qL qTh).mono c268.le f__law_values
    have f113 := (qL (qL qS)).mono c268.le f113
    have f176 := (qL qPat).mono c268.le f176
    have f177 := (qL qPat).mono c268.le f177
    have f178 := qSd.mono c268.le f178
    have f213 := (qL qPat).mono c268.le f213
    have f214 := (qL qPat).mono c268.le f214
    have f215 := qSd.mono c268.le f215
    have w__law_pool_here := w__law_pool_here.call0 c268
    have r237 := Row.mono c268.le r237
    have w236 := w236.call0 c268
    have r242 := Row.mono c268.le r242
    have w241 := w241.call0 c268
    have w140 := w140.call0 c268
    have w186 := w186.call0 c268
    have w223 := w223.call0 c268
    have r253 := Row.mono c268.le r253
    have w262 := w262.call0 c268
    have f271 : qPat.r K F266 v265 (Pat.form t263) := (show qPat.r K F266 v265 _ from f269)
    obtain ⟨g272, hm⟩ := gd_some hm
    refine rd_nil ?_
    refine ap S270 w262 r253 g272 (fun H273 c274 w275 => ?_)
    have r276 := r253.snoc (show qPat.r K F266 _ (Pat.form t263) from f271)
    have S277 := S270.call1 c274 w262
    have f__law_begins := (qL qPat).mono c274.le f__law_begins
    have f__law_ends := (qL qPat).mono c274.le f__law_ends
    have f__law_values := (qL qTh).mono c274.le f__law_values
    have f113 := (qL (qL qS)).mono c274.le f113
    have f176 := (qL qPat).mono c274.le f176
    have f177 := (qL qPat).mono c274.le f177
    have f178 := qSd.mono c274.le f178
    have f213 := (qL qPat).mono c274.le f213
    have f214 := (qL qPat).mono c274.le f214
    have f215 := qSd.mono c274.le f215
    have w__law_pool_here := w__law_pool_here.call c274 (by intro z; exact ne254 z)
    have r237 := Row.mono c274.le r237
    have w236 := w236.call c274 (by intro z; exact ne255 z)
    have r242 := Row.mono c274.le r242
    have w241 := w241.call c274 (by intro z; exact ne256 z)
    have w140 := w140.call c274 (by intro z; exact ne257 z)
    have w186 := w186.call c274 (by intro z; exact ne258 z)
    have w223 := w223.call c274 (by intro z; exact ne259 z)
    have r276 := Row.mono c274.le r276
    refine rd_seq ?_
    refine rd_asg ?_
    refine rd_meth ?_
    refine rd_v rfl ?_
    refine mt_at w186.at_ (by rfl) ?_
    obtain ⟨t278, e279, hm⟩ := bd_some hm
    refine rd_nil ?_
    refine ⟨F266, _, _, _, _, _, ((t162.1, t162.2.1, t162.2.2)), t278, rfl, S277.sub, ⟨w186.fr, w186.at_, .inr (rfl)⟩, f176, f177, f178, e279, fun p283 us284 F280 H281 np285 c282 w286 r287 => ?_⟩
    have ne288 : p__law_pool_here ≠ p283 := w__law_pool_here.ne np285
    have ne289 : p115 ≠ p283 := w236.ne np285
    have ne290 : p125 ≠ p283 := w241.ne np285
    have ne291 : p136 ≠ p283 := w140.ne np285
    have ne292 : g169 ≠ p283 := w186.ne np285
    have ne293 : g206 ≠ p283 := w223.ne np285
    have ne294 : p249 ≠ p283 := w275.ne np285
    have z295 := S277.free0 np285
    have S296 := S277.call0 c282
    have f__law_begins := (qL qPat).mono c282.le f__law_begins
    have f__law_ends := (qL qPat).mono c282.le f__law_ends
    have f__law_values := (qL qTh).mono c282.le f__law_values
    have f113 := (qL (qL qS)).mono c282.le f113
    have f176 := (qL qPat).mono c282.le f176
    have f177 := (qL qPat).mono c282.le f177
    have f178 := qSd.mono c282.le f178
    have f213 := (qL qPat).mono c282.le f213
    have f214 := (qL qPat).mono c282.le f214
    have f215 := qSd.mono c282.le f215
    have w__law_pool_here := w__law_pool_here.call0 c282
    have r237 := Row.mono c282.le r237
    have w236 := w236.call0 c282
    have r242 := Row.mono c282.le r242
    have w241 := w241.call0 c282
    have w140 := w140.call0 c282
    have w186 := w186.call0 c282
    have w223 := w223.call0 c282
    have r276 := Row.mono c282.le r276
    have w275 := w275.call0 c282
    have w297 : Ow (fun a => a = p__law_pool_here) H0 _ _ _ _ := ⟨w286.fr, w286.at_, .inl z295⟩
    obtain ⟨t298, e299, hm⟩ := bd_some hm
    refine rd_gn ?_
    refine rd_seq ?_
    refine rd_drop ?_
    refine rd_bm ?_
    refine rd_v rfl ?_
    refine rd_ty w297.ty ?_
    refine rd_cons ?_
    refine rd_makeR ?_
    refine rd_cons ?_
    refine rd_c ?_
    refine rd_nil ?_
    refine new_Form S296 (.cons rfl .nil) rfl e299 (fun v300 F301 H302 c303 f304 => ?_)
    have S305 := S296.call0 c303
    have f__law_begins := (qL qPat).mono c303.le f__law_begins
    have f__law_ends := (qL qPat).mono c303.le f__law_ends
    have f__law_values := (qL qTh).mono c303.le f__law_values
    have f113 := (qL (qL qS)).mono c303.le f113
    have f176 := (qL qPat).mono c303.le f176
    have f177 := (qL qPat).mono c303.le f177
    have f178 := qSd.mono c303.le f178
    have f213 := (qL qPat).mono c303.le f213
    have f214 := (qL qPat).mono c303.le f214
    have f215 := qSd.mono c303.le f215
    have w__law_pool_here := w__law_pool_here.call0 c303
    have r237 := Row.mono c303.le r237
    have w236 := w236.call0 c303
    have r242 := Row.mono c303.le r242
    have w241 := w241.call0 c303
    have w140 := w140.call0 c303
    have w186 := w186.call0 c303
    have w223 := w223.call0 c303
    have r276 := Row.mono c303.le r276
    have w275 := w275.call0 c303
    have r287 := Row.mono c303.le r287
    have w297 := w297.call0 c303
    have f306 : qPat.r K F301 v300 (Pat.form t298) := (show qPat.r K F301 v300 _ from f304)
    obtain ⟨g307, hm⟩ := gd_some hm
    refine rd_nil ?_
    refine ap S305 w297 r287 g307 (fun H308 c309 w310 => ?_)
    have r311 := r287.snoc (show qPat.r K F301 _ (Pat.form t298) from f306)
    have S312 := S305.call1 c309 w297
    have f__law_begins := (qL qPat).mono c309.le f__law_begins
    have f__law_ends := (qL qPat).mono c309.le f__law_ends
    have f__law_values := (qL qTh).mono c309.le f__law_values
    have f113 := (qL (qL qS)).mono c309.le f113
    have f176 := (qL qPat).mono c309.le f176
    have f177 := (qL qPat).mono c309.le f177
    have f178 := qSd.mono c309.le f178
    have f213 := (qL qPat).mono c309.le f213
    have f214 := (qL qPat).mono c309.le f214
    have f215 := qSd.mono c309.le f215
    have w__law_pool_here := w__law_pool_here.call c309 (by intro z; exact ne288 z)
    have r237 := Row.mono c309.le r237
    have w236 := w236.call c309 (by intro z; exact ne289 z)
    have r242 := Row.mono c309.le r242
    have w241 := w241.call c309 (by intro z; exact ne290 z)
    have w140 := w140.call c309 (by intro z; exact ne291 z)
    have w186 := w186.call c309 (by intro z; exact ne292 z)
    have w223 := w223.call c309 (by intro z; exact ne293 z)
    have r276 := Row.mono c309.le r276
    have w275 := w275.call c309 (by intro z; exact ne294 z)
    have r311 := Row.mono c309.le r311
    obtain ⟨t313, e314, hm⟩ := bd_some hm
    refine rd_seq ?_
    refine rd_ifS ?_
    refine rd_not ?_
    refine rd_tB ?_
    refine rd_call ?_
    refine rd_cons ?_
    refine rd_v rfl ?_
    refine rd_cons ?_
    refine rd_v rfl ?_
    refine rd_cons ?_
    refine rd_op ?_
    refine rd_v rfl ?_
    refine rd_c ?_
    refine rd_ixL (S312.l f113).r e314 (fun u315 f316 => ?_)
    obtain ⟨t317, e318, hm⟩ := bd_some hm
    refine rd_cons ?_
    refine rd_op ?_
    refine rd_v rfl ?_
    refine rd_c ?_
    refine rd_ixL (S312.l f113).r e318 (fun u319 f320 => ?_)
    obtain ⟨t321, e322, hm⟩ := bd_some hm
    refine rd_nil ?_
    refine ⟨F301, _, _, _, _, _, ((t162.1, t162.2.1, t162.2.2)), _, _, _, _, _, _, t321, rfl, S312.sub, ⟨w186.fr, w186.at_, .inr (rfl)⟩, f176, f177, f178, f__law_values, f316, f320, e322, fun v326 F323 H324 c325 f327 => ?_⟩
    have S328 := S312.call0 c325
    have f__law_begins := (qL qPat).mono c325.le f__law_begins
    have f__law_ends := (qL qPat).mono c325.le f__law_ends
    have f__law_values := (qL qTh).mono c325.le f__law_values
    have f113 := (qL (qL qS)).mono c325.le f113
    have f176 := (qL qPat).mono c325.le f176
    have f177 := (qL qPat).mono c325.le f177
    have f178 := qSd.mono c325.le f178
    have f213 := (qL qPat).mono c325.le f213
    have f214 := (qL qPat).mono c325.le f214
    have f215 := qSd.mono c325.le f215
    have w__law_pool_here := w__law_pool_here.call0 c325
    have r237 := Row.mono c325.le r237
    have w236 := w236.call0 c325
    have r242 := Row.mono c325.le r242
    have w241 := w241.call0 c325
    have w140 := w140.call0 c325
    have w186 := w186.call0 c325
    have w223 := w223.call0 c325
    have r276 := Row.mono c325.le r276
    have w275 := w275.call0 c325
    have r311 := Row.mono c325.le r311
    have w310 := w310.call0 c325
    cases (show v326 = (V.bl (t321)) from f327)
    refine rd_b ?_
    refine if_b hm (fun b329 hm => ?_) (fun b329 hm => ?_)
    · skip
      cases hm
      refine rd_ret ?_
      refine rd_c ?_
      exact hQ _ _ _ S328 w__law_pool_here rfl
    · skip
      obtain ⟨t330, e331, hm⟩ := bd_some hm
      refine rd_next ?_
      refine rd_seq ?_
      refine rd_ifS ?_
      refine rd_not ?_
      refine rd_tB ?_
      refine rd_call ?_
      refine rd_cons ?_
      refine rd_v rfl ?_
      refine rd_cons ?_
      refine rd_v rfl ?_
      refine rd_cons ?_
      refine rd_v rfl ?_
      refine rd_cons ?_
      refine rd_op ?_
      refine rd_v rfl ?_
      refine rd_c ?_
      refine rd_ixL (S328.l f113).r e331 (fun u332 f333 => ?_)
      obtain ⟨t334, e335, hm⟩ := bd_some hm
      refine rd_cons ?_
      refine rd_op ?_
      refine rd_v rfl ?_
      refine rd_c ?_
      refine rd_ixL (S328.l f113).r e335 (fun u336 f337 => ?_)
      obtain ⟨t338, e339, hm⟩ := bd_some hm
      refine rd_nil ?_
      refine ⟨F323, _, _, _, _, _, _, _, ((t162.1, t162.2.1, t162.2.2)), _, _, _, _, _, _, t338, rfl, S328.sub, ⟨w__law_pool_here.fr, w__law_pool_here.at_, .inr (Or.inr (rfl))⟩, ⟨w186.fr, w186.at_, .inr (Or.inl rfl)⟩, f176, f177, f178, (Ne.symm ne180), f__law_values, f333, f337, e339, fun v343 F340 H341 u347 c342 w346 f348 w345  f344 => ?_⟩
      have S349 := S328.call c342 (by
          rintro a (rfl | rfl)
          · exact w186.mine.symm
          · exact w__law_pool_here.mine.symm)
      have f__law_begins := (qL qPat).mono c342.le f__law_begins
      have f__law_ends := (qL qPat).mono c342.le f__law_ends
      have f__law_values := (qL qTh).mono c342.le f__law_values
      have f113 := (qL (qL qS)).mono c342.le f113
      have f176 := (qL qPat).mono c342.le f176
      have f177 := (qL qPat).mono c342.le f177
      have f178 := qSd.mono c342.le f178
      have f213 := (qL qPat).mono c342.le f213
      have f214 := (qL qPat).mono c342.le f214
      have f215 := qSd.mono c342.le f215
      have w350 : Ow (fun a => a = p__law_pool_here) H0 _ _ _ _ := ⟨w345.fr, w345.at_, w__law_pool_here.mine⟩
      have r237 := Row.mono c342.le r237
      have w236 := w236.call c342 (by
          rintro (z | z)
          · exact ne181 z
          · exact (Ne.symm ne122) z)
      have r242 := Row.mono c342.le r242
      have w241 := w241.call c342 (by
          rintro (z | z)
          · exact ne182 z
          · exact (Ne.symm ne132) z)
      have w140 := w140.call c342 (by
          rintro (z | z)
          · exact ne183 z
          · exact (Ne.symm ne141) z)
      have w351 : Ow (fun a => a = p__law_pool_here) H0 _ _ _ _ := ⟨w346.fr, w346.at_, w186.mine⟩
      have w223 := w223.call c342 (by
          rintro (z | z)
          · exact (Ne.symm ne220) z
          · exact (Ne.symm ne216) z)
      have r276 := Row.mono c342.le r276
      have w275 := w275.call c342 (by
          rintro (z | z)
          · exact (Ne.symm ne258) z
          · exact (Ne.symm ne254) z)
      have r311 := Row.mono c342.le r311
      have w310 := w310.call c342 (by
          rintro (z | z)
          · exact (Ne.symm ne292) z
          · exact (Ne.symm ne288) z)
      cases (show v343 = (V.bl (t338.1.1)) from f344)
      refine rd_b ?_
      refine if_b hm (fun b352 hm => ?_) (fun b352 hm => ?_)
      · skip
        cases hm
        refine rd_ret ?_
        refine rd_c ?_
        exact hQ _ _ _ S349 w350 rfl
      · skip
        refine rd_next ?_
        refine rd_ret ?_
        refine rd_call ?_
        refine rd_cons ?_
        refine rd_v rfl ?_
        refine rd_cons ?_
        refine rd_lst ?_
        refine rd_cons ?_
        refine rd_c ?_
        refine rd_cons ?_
        refine rd_c ?_
        refine rd_cons ?_
        refine rd_c ?_
        refine rd_cons ?_
        refine rd_c ?_
        refine rd_nil ?_
        refine rd_lK rfl ?_
        refine alL (K := K) (A := qTh) (xs := [(Th.d (PyData.none)), (Th.d (PyData.bool (true))), (Th.d (PyData.none)), (Th.d (PyData.bool (false)))]) S349 (.cons (show qTh.r K F340 _ (Th.d (PyData.none)) from Dp.non) (.cons (show qTh.r K F340 _ (Th.d (PyData.bool (true))) from Dp.bl _) (.cons (show qTh.r K F340 _ (Th.d (PyData.none)) from Dp.non) (.cons (show qTh.r K F340 _ (Th.d (PyData.bool (false))) from Dp.bl _) .nil)))) (fun v353 F354 H355 c356 f357 => ?_)
        have S358 := S349.call0 c356
        have f__law_begins := (qL qPat).mono c356.le f__law_begins
        have f__law_ends := (qL qPat).mono c356.le f__law_ends
        have f__law_values := (qL qTh).mono c356.le f__law_values
        have f113 := (qL (qL qS)).mono c356.le f113
        have f176 := (qL qPat).mono c356.le f176
        have f177 := (qL qPat).mono c356.le f177
        have f348 := qSd.mono c356.le f348
        have f213 := (qL qPat).mono c356.le f213
        have f214 := (qL qPat).mono c356.le f214
        have f215 := qSd.mono c356.le f215
        have w350 := w350.call0 c356
        have r237 := Row.mono c356.le r237
        have w236 := w236.call0 c356
        have r242 := Row.mono c356.le r242
        have w241 := w241.call0 c356
        have w140 := w140.call0 c356
        have w351 := w351.call0 c356
        have w223 := w223.call0 c356
        have r276 := Row.mono c356.le r276
        have w275 := w275.call0 c356
        have r311 := Row.mono c356.le r311
        have w310 := w310.call0 c356
        obtain ⟨t359, e360, hm⟩ := bd_some hm
        refine rd_cons ?_
        refine rd_op ?_
        refine rd_v rfl ?_
        refine rd_c ?_
        refine rd_ixL (S358.l f113).r e360 (fun u361 f362 => ?_)
        obtain ⟨t363, e364, hm⟩ := bd_some hm
        refine rd_cons ?_
        refine rd_op ?_
        refine rd_v rfl ?_
        refine rd_c ?_
        refine rd_ixL (S358.l f113).r e364 (fun u365 f366 => ?_)
        obtain ⟨t367, e368, hm⟩ := bd_some hm
        refine rd_nil ?_
        refine ⟨F354, _, _, _, _, _, ((t199.1, t199.2.1, t199.2.2)), _, _, _, _, _, _, t367, rfl, S358.sub, ⟨w223.fr, w223.at_, .inr (rfl)⟩, f213, f214, f215, f357, f362, f366, e368, fun v372 F369 H370 c371 f373 => ?_⟩
        have S374 := S358.call0 c371
        have f__law_begins := (qL qPat).mono c371.le f__law_begins
        have f__law_ends := (qL qPat).mono c371.le f__law_ends
        have f__law_values := (qL qTh).mono c371.le f__law_values
        have f113 := (qL (qL qS)).mono c371.le f113
        have f176 := (qL qPat).mono c371.le f176
        have f177 := (qL qPat).mono c371.le f177
        have f348 := qSd.mono c371.le f348
        have f213 := (qL qPat).mono c371.le f213
        have f214 := (qL qPat).mono c371.le f214
        have f215 := qSd.mono c371.le f215
        have w350 := w350.call0 c371
        have r237 := Row.mono c371.le r237
        have w236 := w236.call0 c371
        have r242 := Row.mono c371.le r242
        have w241 := w241.call0 c371
        have w140 := w140.call0 c371
        have w351 := w351.call0 c371
        have w223 := w223.call0 c371
        have r276 := Row.mono c371.le r276
        have w275 := w275.call0 c371
        have r311 := Row.mono c371.le r311
        have w310 := w310.call0 c371
        cases (show v372 = (V.bl (t367)) from f373)
        cases hm
        exact hQ _ _ _ S374 w350 rfl
def sp_law_below (K : PySem.W.Frag) : Sp := fun vs H Q _ => ∃ (F : Hp) (v__law_begins : V) (a__law_begins : (List Pat)) (v__law_ends : V) (a__law_ends : (List Pat)) (v__law_values : V) (a__law_values : (List Th)) (r : Bool), vs = [v__law_begins, v__law_ends, v__law_values] ∧ Same F H ∧ (qL qPat).r K F v__law_begins a__law_begins ∧ (qL qPat).r K F v__law_ends a__law_ends ∧ (qL qTh).r K F v__law_values a__law_values ∧ m_law_below a__law_begins a__law_ends a__law_values = some r ∧ ∀ v F' H', Sx P0 F H F' H' → qB.r K F' v r → Q v H'
theorem sc_law_below : FnScope ["_law_begins", "_law_ends", "_law_values", "e"] ["_law_begins", "_law_ends", "_law_values"] (defScope s_law_below) := ⟨rfl, rfl, rfl, by decide +kernel, rfl, by decide +kernel, by decide +kernel⟩
theorem bn_law_below (T : Tx P K mg) : Binds K (fdOf K ("_law_below", none)) ["_law_begins", "_law_ends", "_law_values"] [] := FunD.bindsN T.F_law_below fun _ _ _ _ _ _ us hl => match us, hl with | [_, _, _], _ => rfl
theorem ok_law_below (T : Tx P K mg) : FnOk P w K mg base CX0 6 (He.ga K "_law_below") (fdOf K ("_law_below", none)) ["_law_begins", "_law_ends", "_law_values"] (sp_law_below K) := by
  refine FunD.ok T.F_law_below sc_law_below (fun vs H0 Q E h => ?_) (fun cdv A outer s H0 vs Q E hr h => ?_)
  · obtain ⟨_, _, _, _, _, _, _, _, rfl, _⟩ := h
    rfl
  · obtain ⟨F0, v__law_begins, a__law_begins, v__law_ends, a__law_ends, v__law_values, a__law_values, r, rfl, hE, f__law_begins, f__law_ends, f__law_values, hm, hQ⟩ := h
    refine ⟨_, PSs.nox ((pss_cons (ps_tryK (i := 3) rfl rfl sc_law_below.nd rfl rfl ⟨by rfl, by decide, .inl T.gx_GlueError⟩ takesF (fun W pn xe tk own => (pss_one (ps_expr (pe_makeKS T.mk_Rule (ok_Rule___init___vx T) (hr.mono (by decide)) (by rfl) T.gc_Rule (kb_Rule___init___vx_0 T).choose_spec (fun σ => passAt tk σ) (pa_cons (pv 0) (pa_cons (pv 1) pa_nil)) (pk_cons (pe_ix (r := rIxL K) ix_list (pv 2) pe_int (fun _ _ => rfl)) (pk_cons (pe_ix (r := rIxL K) ix_list (pv 2) pe_int (fun _ _ => rfl)) (pk_cons (pe_ix (r := rIxL K) ix_list (pv 2) pe_int (fun _ _ => rfl)) (pk_cons (pe_ix (r := rIxL K) ix_list (pv 2) pe_int (fun _ _ => rfl)) pk_nil)))))))) (fun a oe cls d pn hz hf => (pss_one (ps_ret (pe_callB (r := rIsX K (He.ga K "NoRule") a cls d) (cr_isX T.ie_NoRule hz hf) (by rfl) T.n_isinstance (by decide +kernel) (pa_cons (pv 3) (pa_cons (pe_glob (v := V.ref (He.ga K "NoRule")) (by rfl) T.gx_NoRule rfl) pa_nil))))))) (pss_one (ps_ret pe_bl)))), ?_⟩
    have S : Sx P0 F0 H0 F0 H0 := Sx.refl0 hE
    unfold m_law_below at hm
    obtain ⟨t1, e2, hm⟩ := bd_some hm
    refine rd_seq ?_
    refine rd_try ?_
    refine rd_drop ?_
    refine rd_makeKS ?_
    refine rd_cons ?_
    refine rd_v rfl ?_
    refine rd_cons ?_
    refine rd_v rfl ?_
    refine rd_nil ?_
    refine rd_cons ?_
    refine rd_op ?_
    refine rd_v rfl ?_
    refine rd_c ?_
    refine rd_ixL (S.l f__law_values).r e2 (fun u3 f4 => ?_)
    obtain ⟨t5, e6, hm⟩ := bd_some hm
    refine rd_cons ?_
    refine rd_op ?_
    refine rd_v rfl ?_
    refine rd_c ?_
    refine rd_ixL (S.l f__law_values).r e6 (fun u7 f8 => ?_)
    obtain ⟨t9, e10, hm⟩ := bd_some hm
    refine rd_cons ?_
    refine rd_op ?_
    refine rd_v rfl ?_
    refine rd_c ?_
    refine rd_ixL (S.l f__law_values).r e10 (fun u11 f12 => ?_)
    obtain ⟨t13, e14, hm⟩ := bd_some hm
    refine rd_cons ?_
    refine rd_op ?_
    refine rd_v rfl ?_
    refine rd_c ?_
    refine rd_ixL (S.l f__law_values).r e14 (fun u15 f16 => ?_)
    obtain ⟨t17, e18, hm⟩ := bd_some hm
    refine rd_nil ?_
    refine mkk_at (rest := [v__law_begins, v__law_ends, u3, u7, u11, u15]) rfl rfl (fun _ => rfl) ?_
    refine newx_RuleS S f__law_begins f__law_ends f4 f8 f12 f16 e18 ?_ ?_
    rotate_left
    · skip
      intro x26 cls27 d28 F29 H30 ee31 c32 ea33
      subst ee31
      have hm := exT_err hm
      obtain ⟨dd34, rfl, rfl, hx35⟩ := ea33
      refine rd_was T.xm_NoRule_GlueError (fun a36 na37 => ?_)
      have S38 := S.call0 c32
      have f__law_begins := (qL qPat).mono c32.le f__law_begins
      have f__law_ends := (qL qPat).mono c32.le f__law_ends
      have f__law_values := (qL qTh).mono c32.le f__law_values
      cases hm
      refine rd_ret ?_
      refine rd_cb ?_
      refine rd_cons ?_
      refine rd_v rfl ?_
      refine rd_cons ?_
      refine rd_c ?_
      refine rd_nil ?_
      refine rd_isX (cx := V.ref (He.ga K "NoRule")) hx35 (fun _ h => h) T.ki_NoRule_NoRule ?_
      exact hQ _ _ _ S38 rfl
    intro t19 er20 v21 F22 H23 c24 f25
    subst er20
    have hm := exT_ok hm
    have S39 := S.call0 c24
    have f__law_begins := (qL qPat).mono c24.le f__law_begins
    have f__law_ends := (qL qPat).mono c24.le f__law_ends
    have f__law_values := (qL qTh).mono c24.le f__law_values
    cases hm
    refine rd_ret ?_
    refine rd_c ?_
    exact hQ _ _ _ S39 rfl
def sp_law (K : PySem.W.Frag) : Sp := fun vs H Q _ => ∃ (F : Hp) (v__law_script : V) (a__law_script : List Int) (r : Bool), vs = [v__law_script] ∧ Same F H ∧ qC.r K F v__law_script a__law_script ∧ m_law a__law_script = some r ∧ ∀ v F' H', Sx P0 F H F' H' → qB.r K F' v r → Q v H'
theorem sc_law : FnScope ["_law_script", "_law_k", "_law_pool_here", "_law_begins", "_law_ends", "_law_values", "_law_due_here", "_law_at"] ["_law_script"] (defScope s_law) := ⟨rfl, rfl, rfl, by decide +kernel, rfl, by decide +kernel, by decide +kernel⟩
theorem bn_law (T : Tx P K mg) : Binds K (fdOf K ("law", none)) ["_law_script"] [] := FunD.bindsN T.F_law fun _ _ _ _ _ _ us hl => match us, hl with | [_], _ => rfl
theorem ok_law (T : Tx P K mg) : FnOk P w K mg base CX0 17 (He.ga K "law") (fdOf K ("law", none)) ["_law_script"] (sp_law K) := by
  refine FunD.ok T.F_law sc_law (fun vs H0 Q E h => ?_) (fun cdv A outer s H0 vs Q E hr h => ?_)
  · obtain ⟨_, _, _, _, rfl, _⟩ := h
    rfl
  · obtain ⟨F0, v__law_script, a__law_script, r, rfl, hE, f__law_script, hm, hQ⟩ := h
    refine ⟨_, PSs.nox ((pss_cons (ps_for PassesOwn.never rfl (pi_range1 (by rfl) T.n_range (pa_cons (pe_callB (cr_max2 rfl) (by rfl) T.n_max (by decide +kernel) (pa_cons pe_int (pa_cons (pe_callB (cr_min2 rfl) (by rfl) T.n_min (by decide +kernel) (pa_cons pe_int (pa_cons (pe_callB (r := rLenQ K) cr_lenQ (by rfl) T.n_len (by decide +kernel) (pa_cons (pv 0) pa_nil)) pa_nil))) pa_nil))) pa_nil)) (pg_name (i := 1) sc_law.nd rfl (dk rfl)) (pss_cons (ps_set (i := 2) sc_law.nd rfl (dk rfl) (pe_call (ok_law_pool T) (hr.mono (by decide)) (by rfl) T.g_law_pool T.F_law_pool.kp (bn_law_pool T) .nil pass0 (pa_cons (pv 0) (pa_cons (pv 1) pa_nil)))) (pss_cons (ps_setLc (i := 3) (own := [("_law_at", 7)]) (tt := tYes) rfl sc_law.nd rfl rfl (sw_true rfl rfl rfl (by decide +kernel)) (pi_range1 (by rfl) T.n_range (pa_cons (pe_call (ok_law_take T) (hr.mono (by decide)) (by rfl) T.g_law_take T.F_law_take.kp (bn_law_take T) .nil pass0 (pa_cons (pv 2) (pa_cons pe_int pa_nil))) pa_nil)) (blkOk_by (N := ["_law_script", "_law_k", "_law_pool_here", "_law_begins", "_law_ends", "_law_values", "_law_due_here", "_law_at"]) (sc := defScope s_law) (by decide +kernel)) (fun _ _ _ _ _ => pg_name (i := 7) sc_law.nd rfl (Or.inl rfl)) (fun _ _ _ _ _ => pts_nil) (fun _ _ _ _ _ => (pe_call (ok_law_form T) (hr.mono (by decide)) (by rfl) T.g_law_form T.F_law_form.kp (bn_law_form T) .nil pass0 (pa_cons (pe_call (ok_law_parts T) (hr.mono (by decide)) (by rfl) T.g_law_parts T.F_law_parts.kp (bn_law_parts T) .nil pass0 (pa_cons (pv 2) pa_nil)) pa_nil)))) (pss_cons (ps_setLc (i := 4) (own := [("_law_at", 7)]) (tt := tYes) rfl sc_law.nd rfl rfl (sw_true rfl rfl rfl (by decide +kernel)) (pi_range1 (by rfl) T.n_range (pa_cons (pe_call (ok_law_take T) (hr.mono (by decide)) (by rfl) T.g_law_take T.F_law_take.kp (bn_law_take T) .nil pass0 (pa_cons (pv 2) (pa_cons pe_int pa_nil))) pa_nil)) (blkOk_by (N := ["_law_script", "_law_k", "_law_pool_here", "_law_begins", "_law_ends", "_law_values", "_law_due_here", "_law_at"]) (sc := defScope s_law) (by decide +kernel)) (fun _ _ _ _ _ => pg_name (i := 7) sc_law.nd rfl (Or.inl rfl)) (fun _ _ _ _ _ => pts_nil) (fun _ _ _ _ _ => (pe_call (ok_law_form T) (hr.mono (by decide)) (by rfl) T.g_law_form T.F_law_form.kp (bn_law_form T) .nil pass0 (pa_cons (pe_call (ok_law_parts T) (hr.mono (by decide)) (by rfl) T.g_law_parts T.F_law_parts.kp (bn_law_parts T) .nil pass0 (pa_cons (pv 2) pa_nil)) pa_nil)))) (pss_cons (ps_setLc (i := 5) (own := [("_law_at", 7)]) (tt := tYes) rfl sc_law.nd rfl rfl (sw_true rfl rfl rfl (by decide +kernel)) (pi_range1 (by rfl) T.n_range (pa_cons pe_int pa_nil)) (blkOk_by (N := ["_law_script", "_law_k", "_law_pool_here", "_law_begins", "_law_ends", "_law_values", "_law_due_here", "_law_at"]) (sc := defScope s_law) (by decide +kernel)) (fun _ _ _ _ _ => pg_name (i := 7) sc_law.nd rfl (Or.inl rfl)) (fun _ _ _ _ _ => pts_nil) (fun _ _ _ _ _ => (pe_call (ok_law_value T) (hr.mono (by decide)) (by rfl) T.g_law_value T.F_law_value.kp (bn_law_value T) .nil pass0 (pa_cons (pv 2) (pa_cons (pv 7) pa_nil))))) (pss_cons (ps_set (i := 6) sc_law.nd rfl (dk rfl) (pe_call (ok_law_due T) (hr.mono (by decide)) (by rfl) T.g_law_due T.F_law_due.kp (bn_law_due T) .nil pass0 (pa_cons (pv 5) (pa_cons (pe_lst (pa_cons pe_int (pa_cons pe_int (pa_cons pe_int (pa_cons pe_int pa_nil))))) pa_nil)))) (C8.pss_cut (ps_if (pt_cmpR op_gt (pe_op op_add (pe_callB (r := rLenQ K) cr_lenQ (by rfl) T.n_len (by decide +kernel) (pa_cons (pv 3) pa_nil)) (pe_callB (r := rLenQ K) cr_lenQ (by rfl) T.n_len (by decide +kernel) (pa_cons (pv 4) pa_nil))) pe_int (nomark _)) (pss_one (ps_set (i := 6) sc_law.nd rfl (dk rfl) pe_str)) pss_nil) (pss_cons (ps_if (pt_cmpR (r := rNeD K) (op_neD hr.units) (pe_call (ok_law_refused T) (hr.mono (by decide)) (by rfl) T.g_law_refused T.F_law_refused.kp (bn_law_refused T) .nil pass0 (pa_cons (pe_callTy (r := rListQ K) cr_listQ (by rfl) T.n_list (by decide +kernel) (pa_cons (pv 3) pa_nil)) (pa_cons (pe_callTy (r := rListQ K) cr_listQ (by rfl) T.n_list (by decide +kernel) (pa_cons (pv 4) pa_nil)) (pa_cons (pv 5) pa_nil)))) (pv 6) (nomark _)) (pss_one (ps_ret pe_bl)) pss_nil) (pss_cons (ps_if (PW.pt (pw_and (pt_cmpR op_isN' (pv 6) pe_non (nomark _)) (pw_and1 (pt_not (pt_val (pe_call (ok_law_rules T) (hr.mono (by decide)) (by rfl) T.g_law_rules T.F_law_rules.kp (bn_law_rules T) .nil pass0 (pa_cons (pv 2) (pa_cons (pv 3) (pa_cons (pv 4) (pa_cons (pv 5) pa_nil)))))))))) (pss_one (ps_ret pe_bl)) pss_nil) (pss_one (ps_if (PW.pt (pw_and (pt_cmpR op_notN' (pv 6) pe_non (nomark _)) (pw_and1 (pt_not (pt_val (pe_call (ok_law_below T) (hr.mono (by decide)) (by rfl) T.g_law_below T.F_law_below.kp (bn_law_below T) .nil pass0 (pa_cons (pe_callTy (r := rListQ K) cr_listQ (by rfl) T.n_list (by decide +kernel) (pa_cons (pv 3) pa_nil)) (pa_cons (pe_callTy (r := rListQ K) cr_listQ (by rfl) T.n_list (by decide +kernel) (pa_cons (pv 4) pa_nil)) (pa_cons (pv 5) pa_nil))))))))) (pss_one (ps_ret pe_bl)) pss_nil))))))))))) (pss_one (ps_ret pe_bl)))), ?_⟩
    have S : Sx P0 F0 H0 F0 H0 := Sx.refl0 hE
    unfold m_law at hm
    obtain ⟨g1, hm⟩ := gd_some hm
    refine rd_seq ?_
    refine rd_for ?_
    refine rd_iR1 ?_
    refine rd_cons ?_
    refine rd_cb ?_
    refine rd_cons ?_
    refine rd_c ?_
    refine rd_cons ?_
    refine rd_cb ?_
    refine rd_cons ?_
    refine rd_c ?_
    refine rd_cons ?_
    refine rd_cb ?_
    refine rd_cons ?_
    refine rd_v rfl ?_
    refine rd_nil ?_
    refine rd_lenQ (S.c f__law_script).q ?_
    refine rd_nil ?_
    refine rd_min2 ?_
    refine rd_nil ?_
    refine rd_max2 ?_
    refine rd_nil ?_
    refine rd_r1 g1 ?_
    obtain ⟨t2, e3, hm⟩ := bd_some hm
    refine rd_forC feedsRg (typedR (K := K) (F := F0)) e3 (fun (s4 : Unit) σ H => ∃ (F : Hp) (o1 : Option V) (o2 : Option V) (o3 : Option V) (o4 : Option V) (o5 : Option V) (o6 : Option V) (o7 : Option V), σ = [some v__law_script, o1, o2, o3, o4, o5, o6, o7] ∧ Sx P0 F0 H0 F H) ?_ ?_ ?_ ?_
    · intro _ _ _ _; trivial
    · skip
      have S6 := Sx.refl0 S.sub
      exact ⟨F0, _, _, _, _, _, _, _, rfl, S6⟩
    · skip
      rintro x7 v8 s9 c13 σ10 H11 f12 ⟨F14, o16, o17, o18, o19, o20, o21, o22, rfl, S15⟩ hm25 hbk23 hrt24
      have f__law_script := qC.mono S15.le f__law_script
      unfold m_law_b4 at hm25
      cases (show v8 = (V.int (x7)) from f12)
      obtain ⟨t26, e27, hm25⟩ := bd_some hm25
      refine rd_gn ?_
      refine rd_seq ?_
      refine rd_asg ?_
      refine rd_call ?_
      refine rd_cons ?_
      refine rd_v rfl ?_
      refine rd_cons ?_
      refine rd_v rfl ?_
      refine rd_nil ?_
      refine ⟨F14, _, _, _, t26, rfl, S15.sub, f__law_script, e27, fun p31 F28 H29 np32 c30 w33 => ?_⟩
      have z34 := S15.free0 np32
      have S35 := S15.call0 c30
      have f__law_script := qC.mono c30.le f__law_script
      have w36 : Ow P0 H0 _ _ _ _ := ⟨w33.fr, w33.at_, .inl z34⟩
      obtain ⟨t37, e38, hm25⟩ := bd_some hm25
      refine rd_gn ?_
      refine rd_seq ?_
      refine rd_asg ?_
      refine rd_lc ?_
      refine rd_iR1 ?_
      refine rd_cons ?_
      refine rd_call ?_
      refine rd_cons ?_
      refine rd_v rfl ?_
      refine rd_cons ?_
      refine rd_c ?_
      refine rd_nil ?_
      refine ⟨F28, _, _, _, t37, rfl, S35.sub, w36.arg, e38, fun v42 F39 H40 c41 w44 f43 => ?_⟩
      have S45 := S35.call1 c41 w36
      have f__law_script := qC.mono c41.le f__law_script
      have w46 := w36.back w44
      cases (show v42 = (V.int (t37.1)) from f43)
      obtain ⟨g47, hm25⟩ := gd_some hm25
      refine rd_nil ?_
      refine rd_r1 g47 ?_
      obtain ⟨g48, hm25⟩ := gd_some hm25
      obtain ⟨t49, e50, hm25⟩ := bd_some hm25
      refine rd_comp (B := qPat) feedsRg (typedR (K := K) (F := F39)) e50 g48 (Pc := (fun a => a = p31)) (fun a z => by rw [z, w46.at_]; exact (fun h => nomatch h)) S45.sub (fun (s51 : (Int × Int)) F H => Ow (fun a => a = p31) H40 F H p31 (.lst [V.int s51.1, V.int s51.2])) ?_ ?_ ?_ ?_ ?_ ?_
      · intro _ _ _ _ _; trivial
      · exact ⟨w46.fr, w46.at_, .inr rfl⟩
      · intro s F H q o w _ hq; exact w.temp hq
      · intro s F H q u o w h0 hq; exact w.putO (ne_of_none w46.at_ h0)
      · skip
        intro x53 v54 s55 o56 F57 H58 d59 acc60 f61 S62 w63 w64 n65 hm66 E67 N68 hN69 hE70
        have f__law_script := qC.mono S62.le f__law_script
        have S71 : Sx (fun a => a = p31) _ _ _ _ := Sx.refl S62.sub (fun a z => by rw [z, w63.at_]; exact (fun h => nomatch h))
        have w72 : Ow (fun a => a = p31) H58 _ _ _ _ := ⟨w63.fr, w63.at_, .inr (rfl)⟩
        unfold m_law_b1 at hm66
        cases (show v54 = (V.int (x53)) from f61)
        obtain ⟨t73, e74, hm66⟩ := bd_some hm66
        refine rd_gn ?_
        refine rd_wp rfl ?_
        refine rd_yes ?_
        refine if_tt ?_
        refine rd_call ?_
        refine rd_cons ?_
        refine rd_call ?_
        refine rd_cons ?_
        refine rd_v rfl ?_
        refine rd_nil ?_
        refine ⟨F57, _, _, t73, rfl, S71.sub, w72.arg, e74, fun v78 F75 H76 c77 w80 f79 => ?_⟩
        have S81 := S71.call1 c77 w72
        have f__law_script := qC.mono c77.le f__law_script
        have w82 := w72.back w80
        obtain ⟨t83, e84, hm66⟩ := bd_some hm66
        refine rd_nil ?_
        refine ⟨F75, _, _, t83, rfl, S81.sub, f79, e84, fun v88 F85 H86 c87 f89 => ?_⟩
        have S90 := S81.call0 c87
        have f__law_script := qC.mono c87.le f__law_script
        have w82 := w82.call0 c87
        have f91 : qPat.r K F85 v88 (Pat.form t83) := (show qPat.r K F85 v88 _ from f89)
        cases hm66
        exact hN69 _ _ _ _ rfl S90 f91 ⟨w82.fr, w82.at_, .inr rfl⟩
      intro p92 us93 F94 H95 n96 c97 w98 w99 r100
      have z101 := S45.free0 n96
      have ne102 : p31 ≠ p92 := w46.ne n96
      have S103 := S45.call1 c97 w46
      have f__law_script := qC.mono c97.le f__law_script
      have w104 : Ow P0 H0 _ _ _ _ := ⟨w98.fr, w98.at_, w46.mine⟩
      have w105 : Ow P0 H0 _ _ _ _ := ⟨w99.fr, w99.at_, .inl z101⟩
      obtain ⟨F106, S107, le108, f109, _, eq110⟩ := fz S103 w105 z101 r100
      have f__law_script := qC.mono le108 f__law_script
      have w104 := w104.fzO ne102 eq110
      obtain ⟨t111, e112, hm25⟩ := bd_some hm25
      refine rd_gn ?_
      refine rd_seq ?_
      refine rd_asg ?_
      refine rd_lc ?_
      refine rd_iR1 ?_
      refine rd_cons ?_
      refine rd_call ?_
      refine rd_cons ?_
      refine rd_v rfl ?_
      refine rd_cons ?_
      refine rd_c ?_
      refine rd_nil ?_
      refine ⟨F106, _, _, _, t111, rfl, S107.sub, w104.arg, e112, fun v116 F113 H114 c115 w118 f117 => ?_⟩
      have S119 := S107.call1 c115 w104
      have f__law_script := qC.mono c115.le f__law_script
      have f109 := (qL qPat).mono c115.le f109
      have w120 := w104.back w118
      cases (show v116 = (V.int (t111.1)) from f117)
      obtain ⟨g121, hm25⟩ := gd_some hm25
      refine rd_nil ?_
      refine rd_r1 g121 ?_
      obtain ⟨g122, hm25⟩ := gd_some hm25
      obtain ⟨t123, e124, hm25⟩ := bd_some hm25
      refine rd_comp (B := qPat) feedsRg (typedR (K := K) (F := F113)) e124 g122 (Pc := (fun a => a = p31)) (fun a z => by rw [z, w120.at_]; exact (fun h => nomatch h)) S119.sub (fun (s125 : (Int × Int)) F H => Ow (fun a => a = p31) H114 F H p31 (.lst [V.int s125.1, V.int s125.2])) ?_ ?_ ?_ ?_ ?_ ?_
      · intro _ _ _ _ _; trivial
      · exact ⟨w120.fr, w120.at_, .inr rfl⟩
      · intro s F H q o w _ hq; exact w.temp hq
      · intro s F H q u o w h0 hq; exact w.putO (ne_of_none w120.at_ h0)
      · skip
        intro x127 v128 s129 o130 F131 H132 d133 acc134 f135 S136 w137 w138 n139 hm140 E141 N142 hN143 hE144
        have f__law_script := qC.mono S136.le f__law_script
        have f109 := (qL qPat).mono S136.le f109
        have S145 : Sx (fun a => a = p31) _ _ _ _ := Sx.refl S136.sub (fun a z => by rw [z, w137.at_]; exact (fun h => nomatch h))
        have w146 : Ow (fun a => a = p31) H132 _ _ _ _ := ⟨w137.fr, w137.at_, .inr (rfl)⟩
        unfold m_law_b2 at hm140
        cases (show v128 = (V.int (x127)) from f135)
        obtain ⟨t147, e148, hm140⟩ := bd_some hm140
        refine rd_gn ?_
        refine rd_wp rfl ?_
        refine rd_yes ?_
        refine if_tt ?_
        refine rd_call ?_
        refine rd_cons ?_
        refine rd_call ?_
        refine rd_cons ?_
        refine rd_v rfl ?_
        refine rd_nil ?_
        refine ⟨F131, _, _, t147, rfl, S145.sub, w146.arg, e148, fun v152 F149 H150 c151 w154 f153 => ?_⟩
        have S155 := S145.call1 c151 w146
        have f__law_script := qC.mono c151.le f__law_script
        have f109 := (qL qPat).mono c151.le f109
        have w156 := w146.back w154
        obtain ⟨t157, e158, hm140⟩ := bd_some hm140
        refine rd_nil ?_
        refine ⟨F149, _, _, t157, rfl, S155.sub, f153, e158, fun v162 F159 H160 c161 f163 => ?_⟩
        have S164 := S155.call0 c161
        have f__law_script := qC.mono c161.le f__law_script
        have f109 := (qL qPat).mono c161.le f109
        have w156 := w156.call0 c161
        have f165 : qPat.r K F159 v162 (Pat.form t157) := (show qPat.r K F159 v162 _ from f163)
        cases hm140
        exact hN143 _ _ _ _ rfl S164 f165 ⟨w156.fr, w156.at_, .inr rfl⟩
      intro p166 us167 F168 H169 n170 c171 w172 w173 r174
      have z175 := S119.free0 n170
      have ne176 : p31 ≠ p166 := w120.ne n170
      have S177 := S119.call1 c171 w120
      have f__law_script := qC.mono c171.le f__law_script
      have f109 := (qL qPat).mono c171.le f109
      have w178 : Ow P0 H0 _ _ _ _ := ⟨w172.fr, w172.at_, w120.mine⟩
      have w179 : Ow P0 H0 _ _ _ _ := ⟨w173.fr, w173.at_, .inl z175⟩
      obtain ⟨F180, S181, le182, f183, _, eq184⟩ := fz S177 w179 z175 r174
      have f__law_script := qC.mono le182 f__law_script
      have f109 := (qL qPat).mono le182 f109
      have w178 := w178.fzO ne176 eq184
      obtain ⟨g185, hm25⟩ := gd_some hm25
      refine rd_gn ?_
      refine rd_seq ?_
      refine rd_asg ?_
      refine rd_lc ?_
      refine rd_iR1 ?_
      refine rd_cons ?_
      refine rd_c ?_
      refine rd_nil ?_
      refine rd_r1 g185 ?_
      obtain ⟨g186, hm25⟩ := gd_some hm25
      obtain ⟨t187, e188, hm25⟩ := bd_some hm25
      refine rd_comp (B := qTh) feedsRg (typedR (K := K) (F := F180)) e188 g186 (Pc := (fun a => a = p31)) (fun a z => by rw [z, w178.at_]; exact (fun h => nomatch h)) S181.sub (fun (s189 : (Int × Int)) F H => Ow (fun a => a = p31) H169 F H p31 (.lst [V.int s189.1, V.int s189.2])) ?_ ?_ ?_ ?_ ?_ ?_
      · intro _ _ _ _ _; trivial
      · exact ⟨w178.fr, w178.at_, .inr rfl⟩
      · intro s F H q o w _ hq; exact w.temp hq
      · intro s F H q u o w h0 hq; exact w.putO (ne_of_none w178.at_ h0)
      · skip
        intro x191 v192 s193 o194 F195 H196 d197 acc198 f199 S200 w201 w202 n203 hm204 E205 N206 hN207 hE208
        have f__law_script := qC.mono S200.le f__law_script
        have f109 := (qL qPat).mono S200.le f109
        have f183 := (qL qPat).mono S200.le f183
        have S209 : Sx (fun a => a = p31) _ _ _ _ := Sx.refl S200.sub (fun a z => by rw [z, w201.at_]; exact (fun h => nomatch h))
        have w210 : Ow (fun a => a = p31) H196 _ _ _ _ := ⟨w201.fr, w201.at_, .inr (rfl)⟩
        unfold m_law_b3 at hm204
        cases (show v192 = (V.int (x191)) from f199)
        obtain ⟨t211, e212, hm204⟩ := bd_some hm204
        refine rd_gn ?_
        refine rd_wp rfl ?_
        refine rd_yes ?_
        refine if_tt ?_
        refine rd_call ?_
        refine rd_cons ?_
        refine rd_v rfl ?_
        refine rd_cons ?_
        refine rd_v rfl ?_
        refine rd_nil ?_
        refine ⟨F195, _, _, _, t211, rfl, S209.sub, w210.arg, e212, fun v216 F213 H214 c215 w218 f217 => ?_⟩
        have S219 := S209.call1 c215 w210
        have f__law_script := qC.mono c215.le f__law_script
        have f109 := (qL qPat).mono c215.le f109
        have f183 := (qL qPat).mono c215.le f183
        have w220 := w210.back w218
        cases hm204
        exact hN207 _ _ _ _ rfl S219 f217 ⟨w220.fr, w220.at_, .inr rfl⟩
      intro p221 us222 F223 H224 n225 c226 w227 w228 r229
      have z230 := S181.free0 n225
      have ne231 : p31 ≠ p221 := w178.ne n225
      have S232 := S181.call1 c226 w178
      have f__law_script := qC.mono c226.le f__law_script
      have f109 := (qL qPat).mono c226.le f109
      have f183 := (qL qPat).mono c226.le f183
      have w233 : Ow P0 H0 _ _ _ _ := ⟨w227.fr, w227.at_, w178.mine⟩
      have w234 : Ow P0 H0 _ _ _ _ := ⟨w228.fr, w228.at_, .inl z230⟩
      obtain ⟨F235, S236, le237, f238, _, eq239⟩ := fz S232 w234 z230 r229
      have f__law_script := qC.mono le237 f__law_script
      have f109 := (qL qPat).mono le237 f109
      have f183 := (qL qPat).mono le237 f183
      have w233 := w233.fzO ne231 eq239
      refine rd_gn ?_
      refine rd_seq ?_
      refine rd_asg ?_
      refine rd_call ?_
      refine rd_cons ?_
      refine rd_v rfl ?_
      refine rd_cons ?_
      refine rd_lst ?_
      refine rd_cons ?_
      refine rd_c ?_
      refine rd_cons ?_
      refine rd_c ?_
      refine rd_cons ?_
      refine rd_c ?_
      refine rd_cons ?_
      refine rd_c ?_
      refine rd_nil ?_
      refine rd_lK rfl ?_
      refine alL (K := K) (A := qI) (xs := ([0, 1, 2, 3] : List Int)) S236 (.cons rfl (.cons rfl (.cons rfl (.cons rfl .nil)))) (fun v240 F241 H242 c243 f244 => ?_)
      have S245 := S236.call0 c243
      have f__law_script := qC.mono c243.le f__law_script
      have f109 := (qL qPat).mono c243.le f109
      have f183 := (qL qPat).mono c243.le f183
      have f238 := (qL qTh).mono c243.le f238
      have w233 := w233.call0 c243
      obtain ⟨t246, e247, hm25⟩ := bd_some hm25
      refine rd_nil ?_
      refine ⟨F241, _, _, _, _, t246, rfl, S245.sub, f238, f244, e247, fun v251 F248 H249 c250 f252 => ?_⟩
      have S253 := S245.call0 c250
      have f__law_script := qC.mono c250.le f__law_script
      have f109 := (qL qPat).mono c250.le f109
      have f183 := (qL qPat).mono c250.le f183
      have f238 := (qL qTh).mono c250.le f238
      have w233 := w233.call0 c250
      obtain ⟨t254, e255, hm25⟩ := bd_some hm25
      refine rd_gn ?_
      refine rd_cut (fun σ' H' => ∃ (F : Hp) (x0 : V) (o7 : Option V), σ' = [some v__law_script, some (V.int (x7)), some (V.ref p31), some (V.ref p92), some (V.ref p166), some (V.ref p221), some x0, o7] ∧ Sx P0 F248 H249 F H' ∧ (qO qS).r K F x0 t254) ?_ ?_
      · skip
        have S256 := Sx.refl0 S253.sub
        refine rd_ifS ?_
        refine rd_test ?_
        refine rd_op ?_
        refine rd_op ?_
        refine rd_cb ?_
        refine rd_cons ?_
        refine rd_v rfl ?_
        refine rd_nil ?_
        refine rd_lenQ (S256.l f109).r.q ?_
        refine rd_cb ?_
        refine rd_cons ?_
        refine rd_v rfl ?_
        refine rd_nil ?_
        refine rd_lenQ (S256.l f183).r.q ?_
        refine rd_I0 ?_
        refine rd_c ?_
        refine rd_I0 ?_
        refine rd_b ?_
        refine if_b e255 (fun b257 e255 => ?_) (fun b257 e255 => ?_)
        · skip
          have f258 : (qO qS).r K F248 (V.str (("marks" : Str))) (some ("marks" : Str)) := (show (qO qS).r K F248 (V.str (("marks" : Str))) (some ("marks" : Str)) from rfl)
          cases e255
          refine rd_asg ?_
          refine rd_c ?_
          refine rd_gn ?_
          exact ⟨F248, _, _, rfl, S256, f258⟩
        · skip
          cases e255
          refine rd_next ?_
          exact ⟨F248, _, _, rfl, S256, f252⟩
      · skip
        rintro σ260 H259 ⟨F261, x263, o264, rfl, S262, f265⟩
        have S266 := S253.call0 S262
        have f__law_script := qC.mono S262.le f__law_script
        have f109 := (qL qPat).mono S262.le f109
        have f183 := (qL qPat).mono S262.le f183
        have f238 := (qL qTh).mono S262.le f238
        have w233 := w233.call0 S262
        refine rd_seq ?_
        refine rd_ifS ?_
        refine rd_test ?_
        refine rd_op ?_
        refine rd_call ?_
        refine rd_cons ?_
        refine rd_cb ?_
        refine rd_cons ?_
        refine rd_v rfl ?_
        refine rd_nil ?_
        refine rd_listQ (S266.l f109).r.q ?_
        refine alL' S266 (fun v267 F268 H269 c270 f271 => ?_)
        have S272 := S266.call0 c270
        have f__law_script := qC.mono c270.le f__law_script
        have f109 := (qL qPat).mono c270.le f109
        have f183 := (qL qPat).mono c270.le f183
        have f238 := (qL qTh).mono c270.le f238
        have f265 := (qO qS).mono c270.le f265
        have w233 := w233.call0 c270
        refine rd_cons ?_
        refine rd_cb ?_
        refine rd_cons ?_
        refine rd_v rfl ?_
        refine rd_nil ?_
        refine rd_listQ (S272.l f183).r.q ?_
        refine alL' S272 (fun v273 F274 H275 c276 f277 => ?_)
        have S278 := S272.call0 c276
        have f__law_script := qC.mono c276.le f__law_script
        have f109 := (qL qPat).mono c276.le f109
        have f183 := (qL qPat).mono c276.le f183
        have f238 := (qL qTh).mono c276.le f238
        have f265 := (qO qS).mono c276.le f265
        have f271 := (qL qPat).mono c276.le f271
        have w233 := w233.call0 c276
        obtain ⟨t279, e280, hm25⟩ := bd_some hm25
        refine rd_cons ?_
        refine rd_v rfl ?_
        refine rd_nil ?_
        refine ⟨F274, _, _, _, _, _, _, t279, rfl, S278.sub, f271, f277, f238, e280, fun v284 F281 H282 c283 f285 => ?_⟩
        have S286 := S278.call0 c283
        have f__law_script := qC.mono c283.le f__law_script
        have f109 := (qL qPat).mono c283.le f109
        have f183 := (qL qPat).mono c283.le f183
        have f238 := (qL qTh).mono c283.le f238
        have f265 := (qO qS).mono c283.le f265
        have w233 := w233.call0 c283
        obtain ⟨g287, hm25⟩ := gd_some hm25
        obtain ⟨g288, hm25⟩ := gd_some hm25
        refine rd_v rfl ?_
        refine rd_neD (D := (dO dS)) (S286.d (dO dS) f285) (S286.d (dO dS) f265) g287 g288 ?_
        refine rd_b ?_
        refine if_b hm25 (fun b289 hm25 => ?_) (fun b289 hm25 => ?_)
        · skip
          cases hm25
          have e290 := hrt24 _ rfl
          subst e290
          have hm := aft_rt hm
          have S291 := S.call0 S286
          cases hm
          refine rd_ret ?_
          refine rd_c ?_
          exact hQ _ _ _ S291 rfl
        · skip
          obtain ⟨t302, e303, hm25⟩ := bd_some hm25
          refine rd_next ?_
          refine rd_seq ?_
          refine rd_ifS ?_
          refine rd_and ?_
          refine rd_test ?_
          refine rd_op ?_
          refine rd_v rfl ?_
          refine rd_c ?_
          refine rd_isN (A := qS) f265 ?_
          refine rd_b ?_
          refine and_j (fun c H' => c = t302.1 ∧ ∃ F', Sx (fun a => a = p31) F281 H282 F' H' ∧ Ow (fun a => a = p31) H282 F' H' p31 (.lst [V.int t302.2.1, V.int t302.2.2])) ?_ ?_ ?_
          · intro b304 Q305 q306
            have e303 := if_t e303 b304
            have S307 : Sx (fun a => a = p31) _ _ _ _ := Sx.refl S286.sub (fun a z => by rw [z, w233.at_]; exact (fun h => nomatch h))
            have w308 : Ow (fun a => a = p31) H282 _ _ _ _ := ⟨w233.fr, w233.at_, .inr (rfl)⟩
            obtain ⟨t309, e310, e303⟩ := bd_some e303
            refine rd_not ?_
            refine rd_tB ?_
            refine rd_call ?_
            refine rd_cons ?_
            refine rd_v rfl ?_
            refine rd_cons ?_
            refine rd_v rfl ?_
            refine rd_cons ?_
            refine rd_v rfl ?_
            refine rd_cons ?_
            refine rd_v rfl ?_
            refine rd_nil ?_
            refine ⟨F281, _, _, _, _, _, _, _, _, t309, rfl, S307.sub, w308.arg, f109, f183, f238, e310, fun v314 F311 H312 c313 w316 f315 => ?_⟩
            have S317 := S307.call1 c313 w308
            have f__law_script := qC.mono c313.le f__law_script
            have f109 := (qL qPat).mono c313.le f109
            have f183 := (qL qPat).mono c313.le f183
            have f238 := (qL qTh).mono c313.le f238
            have f265 := (qO qS).mono c313.le f265
            have w318 := w308.back w316
            cases (show v314 = (V.bl (t309.1)) from f315)
            cases e303
            refine rd_b ?_
            exact q306 _ _ ⟨rfl, F311, S317, w318⟩
          · intro b304
            have e303 := if_f e303 b304
            cases e303
            have S319 : Sx (fun a => a = p31) _ _ _ _ := Sx.refl S286.sub (fun a z => by rw [z, w233.at_]; exact (fun h => nomatch h))
            have w320 : Ow (fun a => a = p31) H282 _ _ _ _ := ⟨w233.fr, w233.at_, .inr (rfl)⟩
            exact ⟨rfl, F281, S319, w320⟩
          rintro b324 H322 ⟨rfl, F321, c323, w325⟩
          have S326 := S286.call1 c323 w233
          have f__law_script := qC.mono c323.le f__law_script
          have f109 := (qL qPat).mono c323.le f109
          have f183 := (qL qPat).mono c323.le f183
          have f238 := (qL qTh).mono c323.le f238
          have f265 := (qO qS).mono c323.le f265
          have w327 : Ow P0 H0 _ _ _ _ := ⟨w325.fr, w325.at_, w233.mine⟩
          refine if_b hm25 (fun b328 hm25 => ?_) (fun b328 hm25 => ?_)
          · skip
            cases hm25
            have e329 := hrt24 _ rfl
            subst e329
            have hm := aft_rt hm
            have S330 := S.call0 S326
            cases hm
            refine rd_ret ?_
            refine rd_c ?_
            exact hQ _ _ _ S330 rfl
          · skip
            obtain ⟨t351, e352, hm25⟩ := bd_some hm25
            refine rd_next ?_
            refine rd_ifS ?_
            refine rd_and ?_
            refine rd_test ?_
            refine rd_op ?_
            refine rd_v rfl ?_
            refine rd_c ?_
            refine rd_notN (A := qS) f265 ?_
            refine rd_b ?_
            refine and_j (fun c H' => c = t351 ∧ ∃ F', Sx P0 F321 H322 F' H') ?_ ?_ ?_
            · intro b353 Q354 q355
              have e352 := if_t e352 b353
              have S356 := Sx.refl0 S326.sub
              refine rd_not ?_
              refine rd_tB ?_
              refine rd_call ?_
              refine rd_cons ?_
              refine rd_cb ?_
              refine rd_cons ?_
              refine rd_v rfl ?_
              refine rd_nil ?_
              refine rd_listQ (S356.l f109).r.q ?_
              refine alL' S356 (fun v357 F358 H359 c360 f361 => ?_)
              have S362 := S356.call0 c360
              have f__law_script := qC.mono c360.le f__law_script
              have f109 := (qL qPat).mono c360.le f109
              have f183 := (qL qPat).mono c360.le f183
              have f238 := (qL qTh).mono c360.le f238
              have f265 := (qO qS).mono c360.le f265
              have w327 := w327.call0 c360
              refine rd_cons ?_
              refine rd_cb ?_
              refine rd_cons ?_
              refine rd_v rfl ?_
              refine rd_nil ?_
              refine rd_listQ (S362.l f183).r.q ?_
              refine alL' S362 (fun v363 F364 H365 c366 f367 => ?_)
              have S368 := S362.call0 c366
              have f__law_script := qC.mono c366.le f__law_script
              have f109 := (qL qPat).mono c366.le f109
              have f183 := (qL qPat).mono c366.le f183
              have f238 := (qL qTh).mono c366.le f238
              have f265 := (qO qS).mono c366.le f265
              have f361 := (qL qPat).mono c366.le f361
              have w327 := w327.call0 c366
              obtain ⟨t369, e370, e352⟩ := bd_some e352
              refine rd_cons ?_
              refine rd_v rfl ?_
              refine rd_nil ?_
              refine ⟨F364, _, _, _, _, _, _, t369, rfl, S368.sub, f361, f367, f238, e370, fun v374 F371 H372 c373 f375 => ?_⟩
              have S376 := S368.call0 c373
              have f__law_script := qC.mono c373.le f__law_script
              have f109 := (qL qPat).mono c373.le f109
              have f183 := (qL qPat).mono c373.le f183
              have f238 := (qL qTh).mono c373.le f238
              have f265 := (qO qS).mono c373.le f265
              have w327 := w327.call0 c373
              cases (show v374 = (V.bl (t369)) from f375)
              cases e352
              refine rd_b ?_
              exact q355 _ _ ⟨rfl, F371, S376⟩
            · intro b353
              have e352 := if_f e352 b353
              cases e352
              have S377 := Sx.refl0 S326.sub
              exact ⟨rfl, F321, S377⟩
            rintro b381 H379 ⟨rfl, F378, c380⟩
            have S382 := S326.call0 c380
            have f__law_script := qC.mono c380.le f__law_script
            have f109 := (qL qPat).mono c380.le f109
            have f183 := (qL qPat).mono c380.le f183
            have f238 := (qL qTh).mono c380.le f238
            have f265 := (qO qS).mono c380.le f265
            have w327 := w327.call0 c380
            refine if_b hm25 (fun b383 hm25 => ?_) (fun b383 hm25 => ?_)
            · skip
              cases hm25
              have e384 := hrt24 _ rfl
              subst e384
              have hm := aft_rt hm
              have S385 := S.call0 S382
              cases hm
              refine rd_ret ?_
              refine rd_c ?_
              exact hQ _ _ _ S385 rfl
            · skip
              cases hm25
              refine rd_next ?_
              exact ⟨_, rfl, ⟨F378, _, _, _, _, _, _, _, rfl, S382⟩⟩
    · skip
      rintro s388 σ386 H387 e389 ⟨F390, o392, o393, o394, o395, o396, o397, o398, rfl, S391⟩
      subst e389
      have hm := aft_nx hm
      have S399 := S.call0 S391
      have f__law_script := qC.mono S391.le f__law_script
      cases hm
      refine rd_ret ?_
      refine rd_c ?_
      exact hQ _ _ _ S399 rfl
end

/-! ### the drawn numbers -/
theorem take_ok {p : Int × Int} {n : Int} (h : 0 < n) (h2 : n < 16000000) : Ok (m_law_take p n) fun r => 0 ≤ r.1 ∧ r.1 < n := by
  unfold m_law_take
  have hm : modOk n = true := modOk_ok h
  have hz : n ≠ 0 := by omega
  refine Ok.ite (fun _ => ?_) fun _ => ?_
  · exact Ok.gd hm (Ok.gd (divOk_ok h (by omega)) (Ok.sm ⟨Int.emod_nonneg _ hz, Int.emod_lt_of_pos _ h⟩))
  · have b1 : 0 ≤ (p.2 * 48271 + 11) % 2147483647 := Int.emod_nonneg _ (by decide)
    have b2 : (p.2 * 48271 + 11) % 2147483647 < 2147483647 := Int.emod_lt_of_pos _ (by decide)
    refine Ok.gd (mulOk_r (by decide) (by decide)) (Ok.gd (by decide) (Ok.gd (mulOk_l ?_ ?_) (Ok.gd (by decide) (Ok.gd (by decide) (Ok.gd hm (Ok.sm ⟨Int.emod_nonneg _ hz, Int.emod_lt_of_pos _ h⟩))))))
    · show -(2 ^ 64) < (p.2 * 48271 + 11) % 2147483647
      omega
    · show (p.2 * 48271 + 11) % 2147483647 < 2 ^ 64
      omega
theorem pool_ok {ns : List Int} {k : Int} (h0 : 0 ≤ k) (h1 : k < 1000) : Ok (m_law_pool ns k) fun _ => True := by
  unfold m_law_pool
  refine Ok.bd (P := fun _ => True) (Ok.gd (shp_lI _) (Ok.gd (shp_lI _) (Ok.ite (fun e => ?_) fun _ => Ok.sm trivial))) fun t _ => ?_
  · have hn : ns ≠ [] := by simpa using e
    have hl : (0 : Int) < (ns.length : Int) := by
      cases ns with
      | nil => exact absurd rfl hn
      | cons x xs => show (0 : Int) < ((xs.length + 1 : Nat) : Int); omega
    refine Ok.gd (modOk_ok hl) ?_
    have b1 : 0 ≤ k % (ns.length : Int) := Int.emod_nonneg _ (by omega)
    have b2 : k % (ns.length : Int) < ns.length := Int.emod_lt_of_pos _ hl
    have hlt : (k % (ns.length : Int)).toNat < ns.length := by omega
    exact Ok.bde (a := ns[(k % (ns.length : Int)).toNat]) (by rw [atI_nn b1 b2]; simp [hlt]) (Ok.sm trivial)
  · have b1 : 0 ≤ t % 2147483629 := Int.emod_nonneg _ (by decide)
    have b2 : t % 2147483629 < 2147483629 := Int.emod_lt_of_pos _ (by decide)
    refine Ok.gd (by decide) (Ok.gd (mulOk_l (by decide) (by decide)) (Ok.gd (mulOk_r (by decide) (by decide)) (Ok.gd (by decide) (Ok.gd (by decide) (Ok.gd (mulOk_r ?_ ?_) (Ok.sm trivial))))))
    · unfold b2I; split <;> decide
    · unfold b2I; split <;> decide

/-! ### texts of the 68 signs -/
abbrev SG : Str := " #-.0123456789:>ABCDEFGHIJKLMNOPQRSTUVWXYZabcdefghijklmnopqrstuvwxyz"
def gs (s : Str) : Prop := ∀ c ∈ cl s, c ∈ cl SG
theorem gs_app {a b : Str} (h : gs a) (k : gs b) : gs (a ++ b) := by
  intro c hc
  rw [cl_app, List.mem_append] at hc
  exact hc.elim (h c) (k c)
theorem gs_sg {c : Nat} (h : c ∈ cl SG) : gs ⟨#[c]⟩ := fun d hd => by
  rw [cl_sg, List.mem_singleton] at hd
  rw [hd]; exact h
theorem gs_ok {s : Str} (h : gs s) : okS s := by
  have e : ∀ c ∈ cl SG, c < 0x110000 := by decide +kernel
  show (s.cps.all (· < 0x110000)) = true
  rw [Array.all_eq_true_iff_forall_mem]
  intro c hc
  exact decide_eq_true (e c (h c (Array.mem_toList_iff.mpr hc)))
theorem gs_nil : gs "" := fun c hc => by
  have e : cl "" = [] := by decide +kernel
  rw [e] at hc
  exact absurd hc List.not_mem_nil
theorem gs_at {s z : Str} {c : Nat} {i : Nat} (h : gs s) (h1 : (cl s)[i]? = some c) (h2 : z = ⟨#[c]⟩) : gs z ∧ z.length = 1 := by
  subst h2
  exact ⟨gs_sg (h c (List.mem_of_getElem? h1)), rfl⟩
theorem gs_SG : gs SG := fun c hc => hc
theorem ix_gs {s : Str} {i : Int} (g : gs s) (h : 0 ≤ i) (h2 : i < s.length) (h3 : s.length ≤ 16000000) : Ok (ixS s i) fun z => gs z ∧ z.length = 1 :=
  (ixS_ok h h2 (Nat.le_trans h3 sizeLine_big)).mono fun z ⟨c, h1, h2⟩ => gs_at g h1 h2
theorem len_app (a b : Str) : (a ++ b).length = a.length + b.length := by rw [cl_len, cl_app, List.length_append, ← cl_len, ← cl_len]
theorem len_nil : ("" : Str).length = 0 := by decide +kernel

abbrev DG : Str := "<digits>"
abbrev WD : Str := "<word>"
abbrev AN : Str := "<any>"
/-- a part as a form has it -/
def part (s : Str) : Prop := s = AN ∨ s = DG ∨ s = WD ∨ (gs s ∧ 1 ≤ s.length ∧ s.length ≤ 4)
theorem part_ok {s : Str} (h : part s) : okS s := by
  rcases h with rfl | rfl | rfl | h
  · show PyData.strOk _ = true; decide +kernel
  · show PyData.strOk _ = true; decide +kernel
  · show PyData.strOk _ = true; decide +kernel
  · exact gs_ok h.1
theorem part_len {s : Str} (h : part s) : 1 ≤ s.length ∧ s.length ≤ 8 := by
  rcases h with rfl | rfl | rfl | h
  · decide +kernel
  · decide +kernel
  · decide +kernel
  · omega
theorem AN_ne : ¬ DG = AN ∧ ¬ WD = AN ∧ ¬ WD = DG := by decide +kernel
theorem ite_no {α : Type} {p : Prop} [Decidable p] {x y : α} (h : ¬ p) : (if decide p = true then x else y) = y := if_neg (by rw [decide_eq_false h]; decide)
theorem ite_ya {α : Type} {p : Prop} [Decidable p] {x y : α} (h : p) : (if decide p = true then x else y) = x := if_pos (decide_eq_true h)

/-! ### cells -/
def cellsT (ps : List Str) : List Str := ps.flatMap fun p => if p ∈ ([DG, WD, AN] : List Str) then [p] else sgns p
theorem sgns_len (z : Str) : (sgns z).length = z.length := by rw [sgns_cl, List.length_map, ← cl_len]
/-! ### lines -/
theorem inS_one (x : Str) (c : Nat) : inS ⟨#[c]⟩ x = decide (c ∈ cl x) := StrLaws.found_one x c
def isL (z : Str) : Bool := !decide (z = "") && (sgns z).all fun x => inS x SG
theorem line_loop : ∀ xs : List Str, loopC m_is_line_b1 xs () = some (if (xs.all fun x => inS x SG) = true then .nx () else .rt false)
  | [] => rfl
  | x :: xs => by
    show ((m_is_line_b1 x ()).bind _) = _
    unfold m_is_line_b1
    rw [List.all_cons]
    cases h : inS x SG with
    | false => rfl
    | true =>
      show loopC m_is_line_b1 xs () = _
      rw [line_loop xs]; rfl
theorem is_line_str (z : Str) : m_is_line (Th.d (PyData.str z)) = some (isL z) := by
  unfold m_is_line isL
  show ((if decide (z = "") = true then some false else ((loopC m_is_line_b1 (sgns z) ()).bind fun t23 => aft t23 fun s46 => some true))) = _
  rw [line_loop]
  by_cases h : z = ""
  · rw [if_pos (decide_eq_true h), decide_eq_true h]; rfl
  · rw [if_neg (by rw [decide_eq_false h]; decide), decide_eq_false h]
    cases (sgns z).all fun x => inS x SG <;> rfl
theorem isL_gs {z : Str} (g : gs z) (h : 1 ≤ z.length) : isL z = true := by
  have hn : ¬ z = "" := fun e => by
    have : z.length = 0 := by rw [e]; decide +kernel
    omega
  unfold isL
  rw [decide_eq_false hn]
  show ((sgns z).all fun x => inS x SG) = true
  rw [List.all_eq_true]
  intro x hx
  rw [sgns_cl, List.mem_map] at hx
  obtain ⟨c, hc, rfl⟩ := hx
  rw [inS_one]
  exact decide_eq_true (g c hc)

/-! ### forms that are allowed -/
def fr (t : Str) : Prop := t = AN ∨ t = DG ∨ t = WD
theorem fr_mem {t : Str} : t ∈ ([DG, WD, AN] : List Str) ↔ fr t := by
  unfold fr
  simp only [List.mem_cons, List.not_mem_nil, or_false]
  constructor
  · rintro (h | h | h)
    · exact .inr (.inl h)
    · exact .inr (.inr h)
    · exact .inl h
  · rintro (h | h | h)
    · exact .inr (.inr h)
    · exact .inl h
    · exact .inr (.inl h)
theorem fr_mem2 {t : Str} : t ∈ ([AN, DG, WD] : List Str) ↔ fr t := by
  unfold fr
  simp only [List.mem_cons, List.not_mem_nil, or_false]
/-- a part at its place -/
def okAt (ps : List Str) (k : Nat) (s : Str) : Prop := (s = AN ∧ AN ∉ ps.take k) ∨ s = DG ∨ s = WD ∨ (gs s ∧ 1 ≤ s.length ∧ s.length ≤ 4 ∧ ∀ t, 0 < k → ps[k - 1]? = some t → fr t)
def alw (ps : List Str) : Prop := ∀ k s, ps[k]? = some s → okAt ps k s
theorem alw_part {ps : List Str} (h : alw ps) : ∀ s ∈ ps, part s := by
  intro s hs
  obtain ⟨k, hk⟩ := List.getElem?_of_mem hs
  rcases h k s hk with ⟨e, _⟩ | e | e | ⟨g, l, l2, _⟩
  · exact .inl e
  · exact .inr (.inl e)
  · exact .inr (.inr (.inl e))
  · exact .inr (.inr (.inr ⟨g, l, l2⟩))
theorem okAt_app {ps : List Str} {k : Nat} {s z : Str} (h : k ≤ ps.length) (o : okAt ps k s) : okAt (ps ++ [z]) k s := by
  rcases o with ⟨e, n⟩ | e | e | ⟨g, l, l2, n⟩
  · exact .inl ⟨e, by rw [List.take_append_of_le_length h]; exact n⟩
  · exact .inr (.inl e)
  · exact .inr (.inr (.inl e))
  · refine .inr (.inr (.inr ⟨g, l, l2, fun t h0 ht => n t h0 ?_⟩))
    rw [List.getElem?_append_left (by omega)] at ht
    exact ht
theorem alw_snoc {ps : List Str} {z : Str} (h : alw ps) (o : okAt ps ps.length z) : alw (ps ++ [z]) := by
  intro k s hk
  by_cases hlt : k < ps.length
  · rw [List.getElem?_append_left hlt] at hk
    exact okAt_app (by omega) (h k s hk)
  · rw [List.getElem?_append_right (by omega)] at hk
    have hz : k - ps.length = 0 := by
      apply Classical.byContradiction
      intro hne
      rw [List.getElem?_eq_none (by simp; omega)] at hk
      cases hk
    rw [hz] at hk
    cases hk
    have : k = ps.length := by omega
    subst this
    exact okAt_app (Nat.le_refl _) o
theorem allowed_eq {ps : List Str} (h : alw ps) (hl : ps.length ≤ 4) {k : Nat} (hk : k < ps.length) : m_is_allowed ps (k : Int) = some true := by
  have hs : ps[k]? = some ps[k] := List.getElem?_eq_getElem hk
  have hat : atI ps (k : Int) = some ps[k] := by rw [atI_nn (by omega) (by omega), Int.toNat_natCast]; exact hs
  have ho := h k _ hs
  unfold m_is_allowed
  refine Ok.eq (Ok.bde hat ?_)
  rw [if_neg (by rw [decide_eq_false (show ¬ (4 : Int) ≤ (k : Int) by omega)]; decide)]
  by_cases hA : ps[k] = AN
  · rw [ite_ya hA, cut_to _ (by omega), Int.toNat_natCast]
    refine Ok.sm ?_
    rcases ho with ⟨_, n⟩ | e | e | ⟨g, l, l2, _⟩
    · rw [decide_eq_false n]; rfl
    · rw [hA] at e; exact absurd e.symm AN_ne.1
    · rw [hA] at e; exact absurd e.symm AN_ne.2.1
    · rw [hA] at l2
      exact absurd l2 (by decide +kernel)
  · rw [ite_no hA]
    by_cases hF : ps[k] ∈ ([DG, WD, AN] : List Str)
    · rw [ite_ya hF]; exact Ok.sm rfl
    · rw [ite_no hF]
      rcases ho with ⟨e, _⟩ | e | e | ⟨g, l, l2, n⟩
      · exact absurd e hA
      · exact absurd (fr_mem.mpr (.inr (.inl e))) hF
      · exact absurd (fr_mem.mpr (.inr (.inr e))) hF
      · refine Ok.bd (P := fun t => t = false) ?_ fun t ht => ?_
        · by_cases h0 : (0 : Int) < (k : Int)
          · rw [ite_ya h0]
            have hlt : k - 1 < ps.length := by omega
            have ht : ps[k - 1]? = some ps[k - 1] := List.getElem?_eq_getElem hlt
            refine Ok.bde (a := ps[k - 1]) (by rw [atI_nn (by omega) (by omega), show ((k : Int) - 1).toNat = k - 1 by omega]; exact ht) (Ok.sm ?_)
            rw [decide_eq_true (fr_mem.mpr (n _ (by omega) ht))]; rfl
          · rw [ite_no h0]; exact Ok.sm rfl
        · rw [ht, if_neg (by decide)]
          refine Ok.bde (is_line_str _) ?_
          rw [isL_gs g l, if_pos rfl]
          exact Ok.bde (by rw [gd_true (fitsS_ok (by omega))]) (Ok.sm (decide_eq_true (show ((ps[k].length : Int)) ≤ 4 by omega)))
theorem init_eq {ps : List Str} (h : alw ps) (hl : ps.length ≤ 4) (h1 : 1 ≤ ps.length) : m_Form___init__ ps = some ps := by
  unfold m_Form___init__
  rw [ite_no (show ¬ (ps.length : Int) = 0 by omega), gd_true (rgOk_ok (by omega) (by omega) (by omega) (by omega))]
  refine Ok.eq (Ok.bd (Ok.loop (fun _ _ => True) trivial fun pre x post s e _ => ?_) fun _ _ => Ok.sm rfl)
  obtain ⟨e1, e2, e3, e4⟩ := rng_at e
  unfold m_Form___init___b1
  have hx : x = (x.toNat : Int) := by omega
  rw [hx]
  refine Ok.bde (allowed_eq h hl (by omega)) ?_
  rw [if_neg (by decide)]
  exact Ok.sm trivial
/-! ### states of forms -/
theorem comp_map {α β : Type} {f : α → Unit → Option (Option β × Unit)} (g : α → β) {xs : List α} (h : ∀ x ∈ xs, f x () = some (some (g x), ())) : comp f xs () = some (xs.map g, ()) := by
  rw [comp_pure (g := fun x => some (g x)) h]
  congr 2
  induction xs with
  | nil => rfl
  | cons x xs ih => rw [List.filterMap_cons, List.map_cons, ih fun y hy => h y (List.mem_cons_of_mem _ hy)]
theorem bs {α β : Type} (a : α) (f : α → Option β) : (some a).bind f = f a := rfl
def allForms (fs : List (List Str)) : Prop := fs.length ≤ 100 ∧ ∀ ps ∈ fs, alw ps ∧ 1 ≤ ps.length ∧ ps.length ≤ 4
theorem join_cl (xs : List Str) : cl (Txt.join "" xs) = xs.flatMap cl := by
  have e0 : ("" : Str).cps = #[] := by decide +kernel
  have fold : ∀ (ps : List Str) (acc : Array Nat), (ps.foldl (fun acc p => acc ++ ("" : Str).cps ++ p.cps) acc).toList = acc.toList ++ ps.flatMap cl := by
    intro ps
    induction ps with
    | nil => intro acc; simp
    | cons p ps ih =>
      intro acc
      rw [List.foldl_cons, ih, e0, List.flatMap_cons]
      show (acc ++ #[] ++ p.cps).toList ++ _ = _
      rw [Array.toList_append, Array.toList_append]
      simp [cl]
  cases xs with
  | nil => rfl
  | cons p ps =>
    show (ps.foldl (fun acc p => acc ++ ("" : Str).cps ++ p.cps) p.cps).toList = _
    rw [fold, List.flatMap_cons]; rfl
/-- how many states forms have at most -/
def stMany (fs : List (List Str)) : Nat := (fs.map fun ps => 2 ^ ((cellsT ps).length + 1)).foldr (· * ·) 1
theorem forms_ne : ∀ a : Pat, 1 ≤ a.forms.length
  | .form _ => Nat.le_refl _
  | .both l r => by
    show 1 ≤ (l.forms ++ r.forms).length
    rw [List.length_append]; have := forms_ne l; omega
  | .either l r => by
    show 1 ≤ (l.forms ++ r.forms).length
    rw [List.length_append]; have := forms_ne l; omega
/-- a pattern whose forms are allowed -/
structure okP (a : Pat) : Prop where
  ht : a.ht ≤ 3
  fs : ∀ ps ∈ a.forms, alw ps ∧ 1 ≤ ps.length ∧ ps.length ≤ 4
  few : a.forms.length ≤ 16
theorem okP.all {a : Pat} (h : okP a) : allForms a.forms := ⟨by have := h.few; omega, h.fs⟩
theorem any_alw : alw [AN] := fun k s hs => by
  cases k with
  | zero => cases hs; exact .inl ⟨rfl, by simp⟩
  | succ k => simp at hs
theorem loop_unit {α : Type} {f : α → Unit → Option Unit} {xs : List α} (h : ∀ x ∈ xs, f x () = some ()) : loopS f xs () = some () := by
  refine Ok.eq ((Ok.loop (fun _ _ => True) trivial fun pre x post s e _ => ?_).mono fun _ _ => rfl)
  exact ⟨(), h x (by rw [e]; simp), trivial⟩
/-! ## the drawn numbers -/
theorem comp_allT {α β S : Type} {f : α → S → Option (Option β × S)} {P : β → Prop} : ∀ {xs : List α} {s : S}, (∀ x ∈ xs, ∀ s, Ok (f x s) fun o => ∃ y, o.1 = some y ∧ P y) → Ok (comp f xs s) fun r => r.1.length = xs.length ∧ ∀ y ∈ r.1, P y
  | [], s, _ => Ok.sm ⟨rfl, fun y hy => by cases hy⟩
  | x :: xs, s, h => by
    show Ok ((f x s).bind _) _
    refine Ok.bd (h x List.mem_cons_self s) fun o ⟨y, e, py⟩ => Ok.bd (comp_allT fun z hz => h z (List.mem_cons_of_mem _ hz)) fun r ⟨l, p⟩ => Ok.sm ?_
    rw [e]
    refine ⟨by show (y :: r.1).length = _; rw [List.length_cons, List.length_cons, l], fun z hz => ?_⟩
    rcases List.mem_cons.mp (show z ∈ y :: r.1 from hz) with e | e
    · rw [e]; exact py
    · exact p z e
/-! ## the drawn trees of patterns -/
theorem text2 {p : Int × Int} : Ok (m_law_text p) fun r => gs r.1 ∧ 1 ≤ r.1.length ∧ r.1.length ≤ 2 := by
  unfold m_law_text
  refine Ok.bd (take_ok (by decide) (by decide)) fun t1 _ => Ok.bd (take_ok (by decide) (by decide)) fun t2 h2 => ?_
  refine Ok.gd (rgOk_ok (by omega) (by omega) (by omega) (by omega)) ?_
  refine Ok.bd (Ok.loop (fun pre s => gs s.2 ∧ s.2.length = pre.length) ⟨gs_nil, len_nil⟩ fun pre x post s e ⟨g, l⟩ => ?_) fun s ⟨g, l⟩ => Ok.sm ⟨g, ?_, ?_⟩
  · unfold m_law_text_b1
    have fin : ∀ z : Str, gs z ∧ z.length = 1 → pre.length < 100 → gs (s.2 ++ z) ∧ (s.2 ++ z).length = (pre ++ [x]).length := fun z ⟨gz, lz⟩ _ => ⟨gs_app g gz, by rw [len_app, lz, l]; simp⟩
    have hp : pre.length < 100 := by
      have := congrArg List.length e
      rw [rng_len] at this
      simp at this
      omega
    refine Ok.ite (fun _ => ?_) fun _ => ?_
    · unfold m_law_all_signs
      refine Ok.bde rfl (Ok.bd (take_ok (by decide) (by decide)) fun d hd => Ok.bd (ix_gs gs_SG hd.1 ?_ (by decide +kernel)) fun z hz => Ok.gd (catOk_ok ?_) (Ok.sm (fin z hz hp)))
      · show d.1 < ((68 : Nat) : Int)
        exact hd.2
      · rw [hz.2, l]; omega
    · refine Ok.bd (take_ok (by decide) (by decide)) fun d hd => Ok.bd (ix_gs (s := "a1-b") (fun c hc => ?_) hd.1 ?_ (by decide +kernel)) fun z hz => Ok.gd (catOk_ok ?_) (Ok.sm (fin z hz hp))
      · revert c; decide +kernel
      · show d.1 < ((4 : Nat) : Int)
        exact hd.2
      · rw [hz.2, l]; omega
  · show 1 ≤ s.2.length
    rw [l, rng_len]; omega
  · show s.2.length ≤ 2
    rw [l, rng_len]; omega
/-- parts as they are drawn -/
def small (s : Str) : Prop := fr s ∨ s.length ≤ 2
structure fine (ps : List Str) : Prop where
  al : alw ps
  pos : 1 ≤ ps.length
  few : ps.length ≤ 3
  sm : ∀ s ∈ ps, small s
theorem parts_fine {p : Int × Int} : Ok (m_law_parts p) fun r => fine r.1 := by
  unfold m_law_parts
  refine Ok.bd (take_ok (by decide) (by decide)) fun t1 h1 => Ok.gd (rgOk_ok (by omega) (by omega) (by omega) (by omega)) ?_
  refine Ok.bd (Ok.loop (fun pre s => (alw s.2 ∧ s.2.length = pre.length) ∧ ∀ z ∈ s.2, small z) ⟨⟨fun k s hk => by simp at hk, rfl⟩, fun z hz => by cases hz⟩ fun pre x post s e ⟨⟨g, l⟩, sm⟩ => ?_) fun s ⟨⟨g, l⟩, sm⟩ => Ok.sm ⟨g, ?_, ?_, sm⟩
  · have hp : pre.length < 100 := by
      have := congrArg List.length e
      rw [rng_len] at this
      simp at this
      omega
    have fin : ∀ z : Str, okAt s.2 s.2.length z → small z → (alw (s.2 ++ [z]) ∧ (s.2 ++ [z]).length = (pre ++ [x]).length) ∧ ∀ y ∈ s.2 ++ [z], small y := fun z hz hs => ⟨⟨alw_snoc g hz, by simp [l]⟩, fun y hy => by
      rcases List.mem_append.mp hy with h | h
      · exact sm y h
      · rw [List.mem_singleton.mp h]; exact hs⟩
    have hf : fits s.2 = true := fits_ok (by omega)
    have gp := alw_part g
    unfold m_law_parts_b1
    refine Ok.bd (take_ok (by decide) (by decide)) fun t2 h2 => Ok.gd (shp_lS fun z hz => part_ok (gp z hz)) (Ok.gd (shp_lS fun z hz => absurd hz List.not_mem_nil) ?_)
    refine Ok.bd (P := fun b => b = false → ∀ t, 0 < s.2.length → s.2[s.2.length - 1]? = some t → fr t) (Ok.ite (fun hn => ?_) fun hn => Ok.sm fun _ t h0 => ?_) fun b hb => ?_
    · have hn : s.2 ≠ [] := by simpa using hn
      obtain ⟨q, z, hq⟩ : ∃ q z, s.2 = q ++ [z] := ⟨s.2.dropLast, s.2.getLast hn, (List.dropLast_concat_getLast hn).symm⟩
      refine Ok.bde (a := z) (by rw [hq]; exact atI_last) (Ok.sm fun hz t h0 ht => ?_)
      have e2 : s.2.length - 1 = q.length := by rw [hq]; simp
      rw [e2, hq, List.getElem?_append_right (Nat.le_refl _), Nat.sub_self] at ht
      cases ht
      have hm : z ∈ ([AN, DG, WD] : List Str) := by
        apply Classical.byContradiction
        intro hne
        rw [decide_eq_false hne] at hz
        cases hz
      exact fr_mem2.mp hm
    · have : s.2 = [] := by simpa using hn
      rw [this] at h0
      exact absurd h0 (by decide)
    · refine Ok.ite (fun hA => Ok.gd hf (Ok.sm (fin _ (.inl ⟨rfl, ?_⟩) (.inl (.inl rfl))))) fun _ => Ok.ite (fun _ => Ok.gd hf (Ok.sm (fin _ (.inr (.inl rfl)) (.inl (.inr (.inl rfl)))))) fun _ => Ok.ite (fun _ => Ok.gd hf (Ok.sm (fin _ (.inr (.inr (.inl rfl))) (.inl (.inr (.inr rfl)))))) fun hW => ?_
      · have := (Bool.and_eq_true_iff.mp hA).2
        rw [List.take_of_length_le (Nat.le_refl _)]
        simpa using this
      · have hb0 : b = false := (Bool.or_eq_false_iff.mp hW).2
        exact Ok.bd text2 fun t3 h3 => Ok.gd hf (Ok.sm (fin _ (.inr (.inr (.inr ⟨h3.1, h3.2.1, Nat.le_trans h3.2.2 (by decide), hb hb0⟩))) (.inr h3.2.2)))
  · show 1 ≤ s.2.length
    rw [l, rng_len]; omega
  · show s.2.length ≤ 3
    rw [l, rng_len]; omega
theorem form3_eq {ps : List Str} (h : fine ps) : m_law_form ps = some ps := by
  obtain ⟨h, h1, hl, _⟩ := h
  unfold m_law_form
  have at_ : ∀ (k : Nat) (hk : k < ps.length), atI ps (k : Int) = some ps[k] := fun k hk => by rw [atI_nn (by omega) (by omega), Int.toNat_natCast]; exact List.getElem?_eq_getElem hk
  match ps, h, hl, h1, at_ with
  | [a], h, _, _, at_ => exact Ok.eq (by rw [ite_ya (show (([a] : List Str).length : Int) = 1 from rfl)]; exact Ok.bde (at_ 0 (by simp)) (Ok.bde (init_eq h (by simp) (by simp)) (Ok.sm rfl)))
  | [a, b], h, _, _, at_ => exact Ok.eq (by rw [ite_no (show ¬ (([a, b] : List Str).length : Int) = 1 from by simp), ite_ya (show (([a, b] : List Str).length : Int) = 2 from rfl)]; exact Ok.bde (at_ 0 (by simp)) (Ok.bde (at_ 1 (by simp)) (Ok.bde (init_eq h (by simp) (by simp)) (Ok.sm rfl))))
  | [a, b, c], h, _, _, at_ => exact Ok.eq (by rw [ite_no (show ¬ (([a, b, c] : List Str).length : Int) = 1 from by simp), ite_no (show ¬ (([a, b, c] : List Str).length : Int) = 2 from by simp)]; exact Ok.bde (at_ 0 (by simp)) (Ok.bde (at_ 1 (by simp)) (Ok.bde (at_ 2 (by simp)) (Ok.bde (init_eq h (by simp) (by simp)) (Ok.sm rfl)))))
abbrev Tree : Type := Str × List Str × List Str
/-- a drawn tree: one form; two with |; two with &, which have a line in common -/
inductive TreeOk : Tree → Prop
  | one {ps : List Str} (h : fine ps) : TreeOk ("=", ps, [])
  | alt {ps qs : List Str} (h : fine ps) (k : fine qs) : TreeOk ("|", ps, qs)
  | ends {a b : Str} (ga : gs a) (ha : 1 ≤ a.length ∧ a.length ≤ 2) (gb : gs b) (hb : 1 ≤ b.length ∧ b.length ≤ 2) : TreeOk ("&", [a, AN], [AN, b])
  | any {ps : List Str} (h : fine ps) : TreeOk ("&", ps, [AN])
/-- the pattern of a tree -/
def patOf (t : Tree) : Pat := if t.1 = "=" then .form t.2.1 else if t.1 = "&" then .both (.form t.2.1) (.form t.2.2) else .either (.form t.2.1) (.form t.2.2)
theorem any_fine : fine [AN] := ⟨any_alw, by decide, by decide, fun s hs => by rw [List.mem_singleton.mp hs]; exact .inl (.inl rfl)⟩
theorem ends_fine {a b : Str} (ga : gs a) (ha : 1 ≤ a.length ∧ a.length ≤ 2) (gb : gs b) (hb : 1 ≤ b.length ∧ b.length ≤ 2) : fine [a, AN] ∧ fine [AN, b] := by
  have na : ∀ {z : Str}, z.length ≤ 2 → AN ≠ z := fun h e => by
    have : AN.length = 5 := by decide +kernel
    rw [← e] at h; omega
  constructor
  · refine ⟨fun k s hk => ?_, Nat.le_of_ble_eq_true rfl, Nat.le_of_ble_eq_true rfl, fun s hs => ?_⟩
    · match k, hk with
      | 0, hk => cases hk; exact .inr (.inr (.inr ⟨ga, ha.1, by omega, fun t h0 => absurd h0 (by decide)⟩))
      | 1, hk => cases hk; exact .inl ⟨rfl, by simp [na ha.2]⟩
    · rcases List.mem_cons.mp hs with e | e
      · rw [e]; exact .inr ha.2
      · rw [List.mem_singleton.mp e]; exact .inl (.inl rfl)
  · refine ⟨fun k s hk => ?_, Nat.le_of_ble_eq_true rfl, Nat.le_of_ble_eq_true rfl, fun s hs => ?_⟩
    · match k, hk with
      | 0, hk => cases hk; exact .inl ⟨rfl, by simp⟩
      | 1, hk => cases hk; exact .inr (.inr (.inr ⟨gb, hb.1, by omega, fun t _ ht => by cases ht; exact .inl rfl⟩))
    · rcases List.mem_cons.mp hs with e | e
      · rw [e]; exact .inl (.inl rfl)
      · rw [List.mem_singleton.mp e]; exact .inr hb.2
theorem TreeOk.fines {t : Tree} (h : TreeOk t) : fine t.2.1 ∧ (t.1 = "=" ∨ fine t.2.2) := by
  cases h with
  | one h => exact ⟨h, .inl rfl⟩
  | alt h k => exact ⟨h, .inr k⟩
  | ends ga ha gb hb => exact ⟨(ends_fine ga ha gb hb).1, .inr (ends_fine ga ha gb hb).2⟩
  | any h => exact ⟨h, .inr any_fine⟩
theorem fine_cells {ps : List Str} (h : fine ps) : (cellsT ps).length ≤ 6 := by
  have one : ∀ p ∈ ps, (if p ∈ ([DG, WD, AN] : List Str) then [p] else sgns p).length ≤ 2 := fun p hp => by
    by_cases hf : p ∈ ([DG, WD, AN] : List Str)
    · rw [if_pos hf]; exact (by decide : 1 ≤ 2)
    · rw [if_neg hf, sgns_len]
      rcases h.sm p hp with e | e
      · exact absurd (fr_mem.mpr e) hf
      · exact e
  have go : ∀ qs : List Str, (∀ p ∈ qs, (if p ∈ ([DG, WD, AN] : List Str) then [p] else sgns p).length ≤ 2) → (cellsT qs).length ≤ 2 * qs.length := by
    intro qs
    induction qs with
    | nil => intro _; exact Nat.le_refl _
    | cons q qs ih =>
      intro hq
      have h1 := hq q List.mem_cons_self
      have h2 := ih fun p hp => hq p (List.mem_cons_of_mem _ hp)
      unfold cellsT at h2 ⊢
      rw [List.flatMap_cons, List.length_append, List.length_cons]
      omega
  have := go ps one
  have := h.few
  omega
theorem pow6 {n : Nat} (h : n ≤ 6) : 2 ^ (n + 1) ≤ 128 := Nat.le_trans (Nat.pow_le_pow_right (by decide) (by omega)) (by decide : 2 ^ 7 ≤ 128)
theorem patOf_ok {t : Tree} (h : TreeOk t) : okP (patOf t) ∧ stMany (patOf t).forms < 15000000 := by
  obtain ⟨h1, h2⟩ := h.fines
  have q1 := pow6 (fine_cells h1)
  have f4 : ∀ {ps : List Str}, fine ps → alw ps ∧ 1 ≤ ps.length ∧ ps.length ≤ 4 := fun h => ⟨h.al, h.pos, Nat.le_trans h.few (by decide)⟩
  unfold patOf
  by_cases e : t.1 = "="
  · rw [if_pos e]
    refine ⟨⟨by show 0 ≤ 3; decide, fun ps hp => ?_, by show 1 ≤ 16; decide⟩, ?_⟩
    · rw [List.mem_singleton.mp hp]; exact f4 h1
    · show 2 ^ ((cellsT t.2.1).length + 1) * 1 < 15000000
      omega
  · have k := h2.resolve_left e
    have q2 := pow6 (fine_cells k)
    have q3 : 2 ^ ((cellsT t.2.1).length + 1) * (2 ^ ((cellsT t.2.2).length + 1) * 1) < 15000000 := by
      have := Nat.mul_le_mul q1 q2
      rw [Nat.mul_one]; omega
    have both : ∀ ps ∈ [t.2.1, t.2.2], alw ps ∧ 1 ≤ ps.length ∧ ps.length ≤ 4 := fun ps hp => by
      rcases List.mem_cons.mp hp with z | z
      · rw [z]; exact f4 h1
      · rw [List.mem_singleton.mp z]; exact f4 k
    rw [if_neg e]
    split
    · exact ⟨⟨by show 1 ≤ 3; decide, both, by show 2 ≤ 16; decide⟩, q3⟩
    · exact ⟨⟨by show 1 ≤ 3; decide, both, by show 2 ≤ 16; decide⟩, q3⟩
/-! ### texts of legal signs and known lengths -/
def lw (s : Str) (n : Nat) : Prop := (∀ c ∈ cl s, c < 1114112) ∧ (cl s).length ≤ n
theorem lw_ok {s : Str} {n : Nat} (h : lw s n) : okS s := by
  show (s.cps.all (· < 0x110000)) = true
  rw [Array.all_eq_true_iff_forall_mem]
  intro c hc
  exact decide_eq_true (h.1 c (Array.mem_toList_iff.mpr hc))
theorem ok_lw {s : Str} (h : okS s) : ∀ c ∈ cl s, c < 1114112 := by
  intro c hc
  have k : (s.cps.all (· < 0x110000)) = true := h
  rw [Array.all_eq_true_iff_forall_mem] at k
  exact of_decide_eq_true (k c (Array.mem_toList_iff.mp hc))
theorem lw_app {s t : Str} {n m : Nat} (h : lw s n) (k : lw t m) : lw (s ++ t) (n + m) := by
  refine ⟨fun c hc => ?_, ?_⟩
  · rw [cl_app, List.mem_append] at hc
    exact hc.elim (h.1 c) (k.1 c)
  · rw [cl_app, List.length_append]
    exact Nat.add_le_add h.2 k.2

/-! ### the text of a pattern, what a shape shows -/
def pTxt : Pat → Str
  | .form ps => Txt.join ("" : Str) ps
  | .both l r => joinP (" & " : Str) (pTxt l) (pTxt r)
  | .either l r => joinP (" | " : Str) (pTxt l) (pTxt r)
theorem e0len : ("" : Str).length = 0 := by decide +kernel
theorem join_lw {ps : List Str} (h : ∀ p ∈ ps, part p) (hl : ps.length ≤ 4) : joinOk ("" : Str) ps = true ∧ lw (Txt.join ("" : Str) ps) 32 := by
  have fl : ∀ {qs : List Str}, (∀ p ∈ qs, part p) → (qs.flatMap cl).length ≤ 8 * qs.length ∧ (qs.map (·.length)).sum ≤ 8 * qs.length := fun {qs} h => by
    induction qs with
    | nil => exact ⟨Nat.le_refl _, Nat.le_refl _⟩
    | cons q qs ih =>
      obtain ⟨i1, i2⟩ := ih fun p hp => h p (List.mem_cons_of_mem _ hp)
      have := part_len (h q List.mem_cons_self)
      rw [List.flatMap_cons, List.length_append, List.map_cons, List.sum_cons, List.length_cons, ← cl_len]
      omega
  obtain ⟨f1, f2⟩ := fl h
  refine ⟨decide_eq_true (by rw [e0len]; omega), fun c hc => ?_, ?_⟩
  · rw [join_cl] at hc
    obtain ⟨p, hp, hc⟩ := List.mem_flatMap.mp hc
    exact ok_lw (part_ok (h p hp)) c hc
  · rw [join_cl]; omega
theorem joinP_lw {m s t : Str} {a b : Nat} (hm : lw m 3) (hs : lw s a) (ht : lw t b) (hab : a + b ≤ 1000) : joinPok m s t = true ∧ lw (joinP m s t) (a + b + 5) := by
  have c1 : lw ("(" : Str) 1 := ⟨by decide +kernel, by decide +kernel⟩
  have c2 : lw (")" : Str) 1 := ⟨by decide +kernel, by decide +kernel⟩
  have c0 : lw Str.empty 0 := ⟨(fun c hc => nomatch hc), Nat.le_refl _⟩
  have k := lw_app (lw_app (lw_app (lw_app (lw_app c0 c1) hs) hm) ht) c2
  have k2 : lw (joinP m s t) (a + b + 5) := ⟨k.1, Nat.le_trans k.2 (by omega)⟩
  have z : ∀ {u : Str} {n : Nat}, lw u n → n ≤ 2000 → u.length ≤ sizeLine := fun {u n} h hn => by
    rw [sizeLine_eq, cl_len]; have := h.2; omega
  refine ⟨?_, k2⟩
  unfold joinPok
  rw [decide_eq_true (z hs (by omega)), decide_eq_true (z ht (by omega)), decide_eq_true (z k2 (by omega))]
  rfl
theorem amp3 : lw (" & " : Str) 3 ∧ lw (" | " : Str) 3 := ⟨⟨by decide +kernel, by decide +kernel⟩, ⟨by decide +kernel, by decide +kernel⟩⟩
theorem pTxt_ok : ∀ {P : Pat}, (∀ ps ∈ P.forms, alw ps ∧ 1 ≤ ps.length ∧ ps.length ≤ 4) → P.forms.length ≤ 16 → P.str = some (pTxt P) ∧ lw (pTxt P) (37 * P.forms.length - 5)
  | .form ps, h, _ => by
    obtain ⟨a, b, c⟩ := h ps (List.mem_singleton.mpr rfl)
    obtain ⟨j1, j2⟩ := join_lw (alw_part a) c
    refine ⟨?_, j2⟩
    show gd (joinOk ("" : Str) ps) _ = _
    rw [gd_true j1]; rfl
  | .both l r, h, hl => by
    have e : (Pat.both l r).forms.length = l.forms.length + r.forms.length := List.length_append
    obtain ⟨i1, i2⟩ := pTxt_ok (P := l) (fun ps hp => h ps (List.mem_append_left _ hp)) (by omega)
    obtain ⟨j1, j2⟩ := pTxt_ok (P := r) (fun ps hp => h ps (List.mem_append_right _ hp)) (by omega)
    have n1 := forms_ne l
    have n2 := forms_ne r
    obtain ⟨k1, k2⟩ := joinP_lw amp3.1 i2 j2 (by omega)
    refine ⟨?_, k2.1, ?_⟩
    · show (l.str.bind fun x => r.str.bind fun y => gd (joinPok (" & " : Str) x y) (some (joinP (" & " : Str) x y))) = _
      rw [i1, bs, j1, bs, gd_true k1]; rfl
    · have : (cl (pTxt (.both l r))).length ≤ _ := k2.2
      rw [e]; omega
  | .either l r, h, hl => by
    have e : (Pat.either l r).forms.length = l.forms.length + r.forms.length := List.length_append
    obtain ⟨i1, i2⟩ := pTxt_ok (P := l) (fun ps hp => h ps (List.mem_append_left _ hp)) (by omega)
    obtain ⟨j1, j2⟩ := pTxt_ok (P := r) (fun ps hp => h ps (List.mem_append_right _ hp)) (by omega)
    have n1 := forms_ne l
    have n2 := forms_ne r
    obtain ⟨k1, k2⟩ := joinP_lw amp3.2 i2 j2 (by omega)
    refine ⟨?_, k2.1, ?_⟩
    · show (l.str.bind fun x => r.str.bind fun y => gd (joinPok (" | " : Str) x y) (some (joinP (" | " : Str) x y))) = _
      rw [i1, bs, j1, bs, gd_true k1]; rfl
    · have : (cl (pTxt (.either l r))).length ≤ _ := k2.2
      rw [e]; omega
theorem str_eq {P : Pat} (h : okP P) : m_pat___str__ P = some (pTxt P) := (patN_of h.ht h.few).trans (pTxt_ok h.fs h.few).1
/-! ### k26: rules made and changed -/
/-- a value as it is drawn -/
def VT (t : Th) : Prop := t = .d .none ∨ (∃ b, t = .d (.bool b)) ∨ (∃ i, t = .d (.int i)) ∨ t = .d (.str "") ∨ t = .d (.str "2") ∨ t = .d (.tuple [])
theorem value_ok {p : Int × Int} {k : Int} : Ok (m_law_value p k) fun r => VT r.1 := by
  unfold m_law_value
  refine Ok.bd (take_ok (by decide) (by decide)) fun t1 h1 => Ok.ite (fun _ => ?_) fun _ => Ok.ite (fun _ => Ok.ite (fun _ => ?_) fun _ => ?_) fun _ => Ok.ite (fun _ => ?_) fun _ => Ok.ite (fun _ => ?_) fun _ => ?_
  · refine Ok.bd (take_ok (by decide) (by decide)) fun t2 h2 => ?_
    obtain ⟨q, _⟩ := t2
    have h : q = 0 ∨ q = 1 ∨ q = 2 ∨ q = 3 ∨ q = 4 ∨ q = 5 := by
      have := h2.1; have := h2.2
      dsimp only at *
      omega
    rcases h with rfl | rfl | rfl | rfl | rfl | rfl
    · exact Ok.bde (a := .d .none) rfl (Ok.sm (.inl rfl))
    · exact Ok.bde (a := .d (.bool true)) rfl (Ok.sm (.inr (.inl ⟨_, rfl⟩)))
    · exact Ok.bde (a := .d (.bool false)) rfl (Ok.sm (.inr (.inl ⟨_, rfl⟩)))
    · exact Ok.bde (a := .d (.str "")) rfl (Ok.sm (.inr (.inr (.inr (.inl rfl)))))
    · exact Ok.bde (a := .d (.str "2")) rfl (Ok.sm (.inr (.inr (.inr (.inr (.inl rfl))))))
    · exact Ok.bde (a := .d (.tuple [])) rfl (Ok.sm (.inr (.inr (.inr (.inr (.inr rfl))))))
  · exact Ok.bd (take_ok (by decide) (by decide)) fun t2 _ => Ok.sm (.inr (.inr (.inl ⟨_, rfl⟩)))
  · exact Ok.gd (by decide) (Ok.sm (.inr (.inl ⟨_, rfl⟩)))
  · exact Ok.bd (take_ok (by decide) (by decide)) fun t2 _ => Ok.sm (.inr (.inr (.inl ⟨_, rfl⟩)))
  · exact Ok.sm (.inl rfl)
  · exact Ok.bd (take_ok (by decide) (by decide)) fun t2 _ => Ok.sm (.inr (.inr (.inl ⟨_, rfl⟩)))
theorem VT.nol {t : Th} (h : VT t) : thNoL t = true := by
  rcases h with rfl | ⟨b, rfl⟩ | ⟨i, rfl⟩ | rfl | rfl | rfl <;> rfl
def gdV (k : Int) (t : Th) : Bool := (m_law_good k t).getD false
theorem good_some {k : Int} {t : Th} (hk : k = 0 ∨ k = 1 ∨ k = 2 ∨ k = 3) (h : VT t) : m_law_good k t = some (gdV k t) := by
  have : ∃ b, m_law_good k t = some b := by
    unfold m_law_good
    rcases hk with rfl | rfl | rfl | rfl <;> rcases h with rfl | ⟨b, rfl⟩ | ⟨i, rfl⟩ | rfl | rfl | rfl <;> exact ⟨_, rfl⟩
  obtain ⟨b, e⟩ := this
  unfold gdV
  rw [e]; rfl
theorem allow26 {k : Int} {f : Str} {t : Th} (hk : (k = 0 ∧ f = "most") ∨ (k = 1 ∧ f = "alone") ∨ (k = 2 ∧ f = "tags") ∨ (k = 3 ∧ f = "quiet")) (h : VT t) : m_is_allowed_rules f t = some (gdV k t) := by
  have a0 : decide (("most" : Str) ∈ [("alone" : Str), ("quiet" : Str)]) = false := by decide +kernel
  have a1 : decide (("alone" : Str) ∈ [("alone" : Str), ("quiet" : Str)]) = true := by decide +kernel
  have a2 : decide (("tags" : Str) ∈ [("alone" : Str), ("quiet" : Str)]) = false := by decide +kernel
  have a3 : decide (("quiet" : Str) ∈ [("alone" : Str), ("quiet" : Str)]) = true := by decide +kernel
  have b0 : decide (("most" : Str) = ("most" : Str)) = true := by decide +kernel
  have b2 : decide (("tags" : Str) = ("most" : Str)) = false := by decide +kernel
  rw [← good_some (by rcases hk with ⟨rfl, _⟩ | ⟨rfl, _⟩ | ⟨rfl, _⟩ | ⟨rfl, _⟩ <;> simp) h]
  unfold m_is_allowed_rules m_law_good
  rcases hk with ⟨rfl, rfl⟩ | ⟨rfl, rfl⟩ | ⟨rfl, rfl⟩ | ⟨rfl, rfl⟩
  · rw [a0, b0]
    rcases h with rfl | ⟨b, rfl⟩ | ⟨i, rfl⟩ | rfl | rfl | rfl <;> rfl
  · rw [a1]
    rcases h with rfl | ⟨b, rfl⟩ | ⟨i, rfl⟩ | rfl | rfl | rfl <;> first | rfl | (cases b <;> rfl)
  · rw [a2, b2]
    rcases h with rfl | ⟨b, rfl⟩ | ⟨i, rfl⟩ | rfl | rfl | rfl <;> rfl
  · rw [a3]
    rcases h with rfl | ⟨b, rfl⟩ | ⟨i, rfl⟩ | rfl | rfl | rfl <;> first | rfl | (cases b <;> rfl)
/-- how a loop ends that looks for one -/
def ct {β ρ : Type} (o : Option β) (e : β → ρ) : Ctl Unit ρ := match o with
  | some x => .rt (e x)
  | none => .nx ()
theorem aft_ct {β ρ : Type} (o : Option β) (e : β → ρ) (k : Unit → Option ρ) : aft (ct o e) k = o.elim (k ()) fun x => some (e x) := by cases o <;> rfl
theorem lc_find {α ρ : Type} {f : α → Unit → Option (Ctl Unit ρ)} {p : α → Bool} {e : α → ρ} : ∀ {xs : List α}, (∀ x ∈ xs, f x () = some (if p x = true then .rt (e x) else .nx ())) → loopC f xs () = some (ct (xs.find? p) e)
  | [], _ => rfl
  | x :: xs, h => by
    have ih := lc_find (xs := xs) fun y hy => h y (List.mem_cons_of_mem _ hy)
    show (f x ()).bind _ = _
    rw [h x List.mem_cons_self, List.find?_cons]
    cases p x with
    | true => rfl
    | false => exact ih
def fld (k : Int) : Str := if k = 0 then "most" else if k = 1 then "alone" else if k = 2 then "tags" else "quiet"
def K4 (k : Int) : Prop := k = 0 ∨ k = 1 ∨ k = 2 ∨ k = 3
theorem fld_at {k : Int} (h : K4 k) : atI [("most" : Str), ("alone" : Str), ("tags" : Str), ("quiet" : Str)] k = some (fld k) := by
  rcases h with rfl | rfl | rfl | rfl <;> rfl
/-- four values -/
structure V4 where
  m : Th
  a : Th
  t : Th
  q : Th
def V4.l (v : V4) : List Th := [v.m, v.a, v.t, v.q]
def V4.s (v : V4) : List (Str × Th) := [(("most" : Str), v.m), (("alone" : Str), v.a), (("tags" : Str), v.t), (("quiet" : Str), v.q)]
structure V4.ok (v : V4) : Prop where
  m : VT v.m
  a : VT v.a
  t : VT v.t
  q : VT v.q
def V4.g (v : V4) (k : Int) : Th := if k = 0 then v.m else if k = 1 then v.a else if k = 2 then v.t else v.q
def V4.set (v : V4) (k : Int) (x : Th) : V4 := if k = 0 then { v with m := x } else if k = 1 then { v with a := x } else if k = 2 then { v with t := x } else { v with q := x }
theorem V4.at_ (v : V4) {k : Int} (h : K4 k) : atI v.l k = some (v.g k) := by
  rcases h with rfl | rfl | rfl | rfl <;> rfl
theorem V4.gk {v : V4} (h : v.ok) {k : Int} (hk : K4 k) : VT (v.g k) := by
  rcases hk with rfl | rfl | rfl | rfl
  · exact h.m
  · exact h.a
  · exact h.t
  · exact h.q
theorem V4.setk {v : V4} (h : v.ok) {k : Int} {x : Th} (hk : K4 k) (hx : VT x) : (v.set k x).ok := by
  rcases hk with rfl | rfl | rfl | rfl
  · exact ⟨hx, h.a, h.t, h.q⟩
  · exact ⟨h.m, hx, h.t, h.q⟩
  · exact ⟨h.m, h.a, hx, h.q⟩
  · exact ⟨h.m, h.a, h.t, hx⟩
/-- the first field asked that is not good -/
def dueV (v : V4) (ks : List Int) : Option Str := (ks.find? fun k => !gdV k (v.g k)).map fld
theorem due26 {v : V4} (h : v.ok) {ks : List Int} (hk : ∀ k ∈ ks, K4 k) : m_law_due v.l ks = some (dueV v ks) := by
  unfold m_law_due
  rw [lc_find (p := fun k => !gdV k (v.g k)) (e := fun k => some (fld k)) fun k h1 => ?_, bs, aft_ct]
  · unfold dueV
    cases ks.find? fun k => !gdV k (v.g k) <;> rfl
  · unfold m_law_due_b1 m_law_fields
    rw [V4.at_ v (hk k h1), bs, good_some (hk k h1) (V4.gk h (hk k h1)), bs]
    cases gdV k (v.g k) with
    | true => rfl
    | false =>
      show Option.bind (some _) _ = _
      rw [bs, bs, fld_at (hk k h1)]; rfl
def idx (f : Str) : Int := if f = "most" then 0 else if f = "alone" then 1 else if f = "tags" then 2 else 3
def badF (s : List (Str × Th)) (f : Str) : Bool := match getSd f s with
  | some t => !gdV (idx f) t
  | none => false
abbrev N4 : List Str := ["most", "alone", "tags", "quiet"]
theorem n4_idx : ∀ f ∈ N4, (idx f = 0 ∧ f = "most") ∨ (idx f = 1 ∧ f = "alone") ∨ (idx f = 2 ∧ f = "tags") ∨ (idx f = 3 ∧ f = "quiet") := by decide +kernel
theorem check26 {s : List (Str × Th)} (h : ∀ f t, getSd f s = some t → VT t) : m_check_settings_vx s = some ((N4.find? (badF s)).elim (.ok ()) .error) := by
  unfold m_check_settings_vx
  rw [lc_find (p := badF s) (e := fun f => .error f) fun f hf => ?_, bs, aft_ct]
  · cases N4.find? (badF s) <;> rfl
  · unfold m_check_settings_vx_b1 badF
    cases e : getSd f s with
    | none => rfl
    | some t =>
      show ((if true = true then (some t).bind _ else _).bind _) = _
      rw [if_pos rfl, bs, allow26 (n4_idx f hf) (h f t e), bs, bs]
      cases e2 : gdV (idx f) t <;> simp only [e2] <;> rfl
theorem find4 {p : Str → Bool} {a b c d : Bool} (h0 : p "most" = a) (h1 : p "alone" = b) (h2 : p "tags" = c) (h3 : p "quiet" = d) : N4.find? p = if a = true then some "most" else if b = true then some "alone" else if c = true then some "tags" else if d = true then some "quiet" else none := by
  subst h0 h1 h2 h3
  rw [List.find?_cons, List.find?_cons, List.find?_cons, List.find?_cons]
  cases p "most" <;> cases p "alone" <;> cases p "tags" <;> cases p "quiet" <;> rfl
theorem ne26 : (¬ ("most" : Str) = "alone" ∧ ¬ ("most" : Str) = "tags" ∧ ¬ ("most" : Str) = "quiet") ∧ (¬ ("alone" : Str) = "most" ∧ ¬ ("alone" : Str) = "tags" ∧ ¬ ("alone" : Str) = "quiet") ∧ (¬ ("tags" : Str) = "most" ∧ ¬ ("tags" : Str) = "alone" ∧ ¬ ("tags" : Str) = "quiet") ∧ (¬ ("quiet" : Str) = "most" ∧ ¬ ("quiet" : Str) = "alone" ∧ ¬ ("quiet" : Str) = "tags") := by decide +kernel
/-- what a change asks for, what is left of it -/
def askV (v w : V4) (ks : List Int) : V4 := ks.foldl (fun u k => u.set k (w.g k)) v
/-- the orders in which the law names them -/
def zipK (w : V4) (ks : List Int) : List (Str × Th) := ks.map fun k => (fld k, w.g k)
theorem fl4 : fld 0 = "most" ∧ fld 1 = "alone" ∧ fld 2 = "tags" ∧ fld 3 = "quiet" := ⟨rfl, rfl, rfl, rfl⟩
theorem ix4 : idx "most" = 0 ∧ idx "alone" = 1 ∧ idx "tags" = 2 ∧ idx "quiet" = 3 := by decide +kernel
/-- the pairs of lists: as asked, as said -/
def Said (as ks : List Int) : Prop := (as = [0] ∧ ks = [0]) ∨ (as = [1] ∧ ks = [1]) ∨ (as = [2] ∧ ks = [2]) ∨ (as = [3] ∧ ks = [3]) ∨ (as = [0, 2] ∧ ks = [2, 0]) ∨ (as = [1, 3] ∧ ks = [3, 1]) ∨ (as = [] ∧ ks = []) ∨ (as = [0, 1, 2, 3] ∧ ks = [3, 2, 1, 0])
theorem said_k {as ks : List Int} (h : Said as ks) : (∀ k ∈ as, K4 k) ∧ ∀ k ∈ ks, K4 k := by
  unfold K4
  rcases h with ⟨rfl, rfl⟩ | ⟨rfl, rfl⟩ | ⟨rfl, rfl⟩ | ⟨rfl, rfl⟩ | ⟨rfl, rfl⟩ | ⟨rfl, rfl⟩ | ⟨rfl, rfl⟩ | ⟨rfl, rfl⟩ <;> decide
theorem bad_some {s : List (Str × Th)} {f : Str} {t : Th} {k : Int} (h : getSd f s = some t) (hk : idx f = k) : badF s f = !gdV k t := by
  unfold badF; rw [h, hk]
theorem bad_none {s : List (Str × Th)} {f : Str} (h : getSd f s = none) : badF s f = false := by
  unfold badF; rw [h]
theorem find_said {w : V4} {as ks : List Int} (h : Said as ks) : N4.find? (badF (zipK w ks)) = dueV w as := by
  obtain ⟨⟨a1, a2, a3⟩, ⟨b1, b2, b3⟩, ⟨c1, c2, c3⟩, ⟨d1, d2, d3⟩⟩ := ne26
  obtain ⟨i0, i1, i2, i3⟩ := ix4
  obtain ⟨f0, f1, f2, f3⟩ := fl4
  have g0 : w.g 0 = w.m := rfl
  have g1 : w.g 1 = w.a := rfl
  have g2 : w.g 2 = w.t := rfl
  have g3 : w.g 3 = w.q := rfl
  unfold dueV zipK
  rcases h with ⟨rfl, rfl⟩ | ⟨rfl, rfl⟩ | ⟨rfl, rfl⟩ | ⟨rfl, rfl⟩ | ⟨rfl, rfl⟩ | ⟨rfl, rfl⟩ | ⟨rfl, rfl⟩ | ⟨rfl, rfl⟩ <;>
  · simp only [List.map_cons, List.map_nil, f0, f1, f2, f3, g0, g1, g2, g3, List.find?_cons, List.find?_nil, badF, getSd, a1, a2, a3, b1, b2, b3, c1, c2, c3, d1, d2, d3, if_true, if_false, i0, i1, i2, i3]
    cases gdV 0 w.m <;> cases gdV 1 w.a <;> cases gdV 2 w.t <;> cases gdV 3 w.q <;> rfl
theorem find_all {w : V4} : N4.find? (badF w.s) = dueV w [0, 1, 2, 3] := by
  obtain ⟨⟨a1, a2, a3⟩, ⟨b1, b2, b3⟩, ⟨c1, c2, c3⟩, ⟨d1, d2, d3⟩⟩ := ne26
  obtain ⟨i0, i1, i2, i3⟩ := ix4
  obtain ⟨f0, f1, f2, f3⟩ := fl4
  have g0 : w.g 0 = w.m := rfl
  have g1 : w.g 1 = w.a := rfl
  have g2 : w.g 2 = w.t := rfl
  have g3 : w.g 3 = w.q := rfl
  unfold dueV V4.s
  simp only [f0, f1, f2, f3, g0, g1, g2, g3, List.find?_cons, List.find?_nil, badF, getSd, a1, a2, a3, b1, b2, b3, c1, c2, c3, d1, d2, d3, if_true, if_false, i0, i1, i2, i3]
  cases gdV 0 w.m <;> cases gdV 1 w.a <;> cases gdV 2 w.t <;> cases gdV 3 w.q <;> rfl
theorem merge_said {v w : V4} {as ks : List Int} (h : Said as ks) : mergeSd (mergeSd [] v.s) (zipK w ks) = (askV v w as).s := by
  obtain ⟨⟨a1, a2, a3⟩, ⟨b1, b2, b3⟩, ⟨c1, c2, c3⟩, ⟨d1, d2, d3⟩⟩ := ne26
  obtain ⟨f0, f1, f2, f3⟩ := fl4
  have g0 : w.g 0 = w.m := rfl
  have g1 : w.g 1 = w.a := rfl
  have g2 : w.g 2 = w.t := rfl
  have g3 : w.g 3 = w.q := rfl
  unfold zipK askV
  rcases h with ⟨rfl, rfl⟩ | ⟨rfl, rfl⟩ | ⟨rfl, rfl⟩ | ⟨rfl, rfl⟩ | ⟨rfl, rfl⟩ | ⟨rfl, rfl⟩ | ⟨rfl, rfl⟩ | ⟨rfl, rfl⟩ <;>
  · simp only [V4.s, V4.set, mergeSd, List.map_cons, List.map_nil, f0, f1, f2, f3, g0, g1, g2, g3, List.foldl_cons, List.foldl_nil, putSd, List.any_nil, List.any_cons, Bool.false_eq_true, if_false, List.nil_append, List.cons_append, a1, a2, a3, b1, b2, b3, c1, c2, c3, d1, d2, d3, decide_false, decide_true, Bool.or_false, Bool.false_or, Bool.true_or, Bool.or_true, if_true]
    try rfl
theorem lc_nx {α ρ : Type} {f : α → Unit → Option (Ctl Unit ρ)} : ∀ {xs : List α}, (∀ x ∈ xs, f x () = some (.nx ())) → loopC f xs () = some (.nx ())
  | [], _ => rfl
  | x :: xs, h => by
    show (f x ()).bind _ = _
    rw [h x List.mem_cons_self]
    exact lc_nx fun y hy => h y (List.mem_cons_of_mem _ hy)
theorem zip_map26 (w : V4) : ∀ ks : List Int, (ks.map fld).zip (ks.map w.g) = zipK w ks
  | [] => rfl
  | k :: ks => by rw [List.map_cons, List.map_cons, List.zip_cons_cons, zip_map26 w ks]; rfl
theorem get_zip {w : V4} (h : w.ok) : ∀ {ks : List Int}, (∀ k ∈ ks, K4 k) → ∀ f t, getSd f (zipK w ks) = some t → VT t
  | [], _, f, t, e => by cases e
  | k :: ks, hk, f, t, e => by
    have e : (if fld k = f then some (w.g k) else getSd f (zipK w ks)) = some t := e
    by_cases q : fld k = f
    · rw [if_pos q] at e; cases e; exact V4.gk h (hk k List.mem_cons_self)
    · rw [if_neg q] at e; exact get_zip h (fun k h => hk k (List.mem_cons_of_mem _ h)) f t e
theorem s_zip (v : V4) : v.s = zipK v [0, 1, 2, 3] := rfl
theorem k4_all : ∀ k ∈ ([0, 1, 2, 3] : List Int), K4 k := by unfold K4; decide
theorem check_s {v : V4} (h : v.ok) : m_check_settings_vx v.s = some ((dueV v [0, 1, 2, 3]).elim (.ok ()) .error) := by
  rw [check26 (s_zip v ▸ get_zip h k4_all), find_all]
theorem change_said {v w : V4} {b e : List Pat} {as ks : List Int} (hw : w.ok) (h : Said as ks) : m_Rule_change_vx (ks.map fld) (b, e, v.s) (ks.map w.g) = some ((dueV w as).elim (.ok ((), (askV v w as).s)) .error) := by
  have all : (ks.map fld).all (fun k => decide (k ∈ (["most", "alone", "tags", "quiet"] : List Str))) = true := by
    rcases h with ⟨rfl, rfl⟩ | ⟨rfl, rfl⟩ | ⟨rfl, rfl⟩ | ⟨rfl, rfl⟩ | ⟨rfl, rfl⟩ | ⟨rfl, rfl⟩ | ⟨rfl, rfl⟩ | ⟨rfl, rfl⟩ <;> decide +kernel
  unfold m_Rule_change_vx
  rw [if_pos all, zip_map26, check26 (get_zip hw (said_k h).2), find_said h, bs]
  cases dueV w as with
  | some f => rfl
  | none =>
    show gd (decide ((4 : Nat) ≤ 100)) (some (Except.ok ((), mergeSd (mergeSd [] v.s) (zipK w ks)))) = _
    rw [gd_true (by decide), merge_said h]; rfl
/-- how it stands behind a change -/
def aftV (v w : V4) (as : List Int) : V4 := if (dueV w as).isNone = true then askV v w as else v
theorem ext_due {v w : V4} {as : List Int} : exT ((dueV w as).elim (Except.ok ((), (askV v w as).s)) Except.error) (fun x => some (some x, v.s)) (fun t => some ((none : Option Str), t.2)) = some (dueV w as, (aftV v w as).s) := by
  unfold aftV
  cases dueV w as <;> rfl
theorem change26 {v w : V4} {b e : List Pat} {as ks : List Int} (hw : w.ok) (h : Said as ks) : m_law_change (b, e, v.s) w.l as = some (dueV w as, (aftV v w as).s) := by
  have k := change_said (v := v) (b := b) (e := e) hw h
  unfold m_law_change
  have g : ∀ {α : Type} (x : Option α) (c : List Int), gd (shp (dL dI) as) (gd (shp (dL dI) c) x) = x := fun x c => by rw [gd_true (shp_lI _), gd_true (shp_lI _)]
  simp only [g]
  rw [← ext_due]
  rcases h with ⟨rfl, rfl⟩ | ⟨rfl, rfl⟩ | ⟨rfl, rfl⟩ | ⟨rfl, rfl⟩ | ⟨rfl, rfl⟩ | ⟨rfl, rfl⟩ | ⟨rfl, rfl⟩ | ⟨rfl, rfl⟩
  · rw [if_pos (by decide)]
    show (m_Rule_change_vx (([0] : List Int).map fld) (b, e, v.s) (([0] : List Int).map w.g)).bind _ = _
    rw [k]; rfl
  · rw [if_neg (by decide), if_pos (by decide)]
    show (m_Rule_change_vx (([1] : List Int).map fld) (b, e, v.s) (([1] : List Int).map w.g)).bind _ = _
    rw [k]; rfl
  · rw [if_neg (by decide), if_neg (by decide), if_pos (by decide)]
    show (m_Rule_change_vx (([2] : List Int).map fld) (b, e, v.s) (([2] : List Int).map w.g)).bind _ = _
    rw [k]; rfl
  · rw [if_neg (by decide), if_neg (by decide), if_neg (by decide), if_pos (by decide)]
    show (m_Rule_change_vx (([3] : List Int).map fld) (b, e, v.s) (([3] : List Int).map w.g)).bind _ = _
    rw [k]; rfl
  · rw [if_neg (by decide), if_neg (by decide), if_neg (by decide), if_neg (by decide), if_pos (by decide)]
    show (m_Rule_change_vx (([2, 0] : List Int).map fld) (b, e, v.s) (([2, 0] : List Int).map w.g)).bind _ = _
    rw [k]; rfl
  · rw [if_neg (by decide), if_neg (by decide), if_neg (by decide), if_neg (by decide), if_neg (by decide), if_pos (by decide)]
    show (m_Rule_change_vx (([3, 1] : List Int).map fld) (b, e, v.s) (([3, 1] : List Int).map w.g)).bind _ = _
    rw [k]; rfl
  · rw [if_neg (by decide), if_neg (by decide), if_neg (by decide), if_neg (by decide), if_neg (by decide), if_neg (by decide), if_pos (by decide)]
    show (m_Rule_change_vx (([] : List Int).map fld) (b, e, v.s) (([] : List Int).map w.g)).bind _ = _
    rw [k]; rfl
  · rw [if_neg (by decide), if_neg (by decide), if_neg (by decide), if_neg (by decide), if_neg (by decide), if_neg (by decide), if_neg (by decide)]
    show (m_Rule_change_vx (([3, 2, 1, 0] : List Int).map fld) (b, e, v.s) (([3, 2, 1, 0] : List Int).map w.g)).bind _ = _
    rw [k]; rfl
theorem strange26 {v : V4} {b e : List Pat} {x : Th} : m_law_strange (b, e, v.s) x = some (true, v.s) := by
  have no : (["most", "speed"] : List Str).all (fun k => decide (k ∈ (["most", "alone", "tags", "quiet"] : List Str))) = false := by decide +kernel
  unfold m_law_strange m_Rule_change_vx
  rw [no, if_neg (by decide), bs]
  show some (decide (("name" : Str) = "name"), v.s) = _
  rw [decide_eq_true rfl]
theorem set_ask {v : V4} {k : Int} {x : Th} (hk : K4 k) : Said [k] [k] ∧ askV v (v.set k x) [k] = v.set k x ∧ (v.set k x).g k = x ∧ dueV (v.set k x) [k] = if gdV k x = true then none else some (fld k) := by
  have z : ∀ k x, dueV (v.set k x) [k] = if gdV k ((v.set k x).g k) = true then none else some (fld k) := fun k x => by
    unfold dueV
    rw [List.find?_cons, List.find?_nil]
    cases gdV k ((v.set k x).g k) <;> rfl
  rcases hk with rfl | rfl | rfl | rfl
  · exact ⟨.inl ⟨rfl, rfl⟩, rfl, rfl, z _ _⟩
  · exact ⟨.inr (.inl ⟨rfl, rfl⟩), rfl, rfl, z _ _⟩
  · exact ⟨.inr (.inr (.inl ⟨rfl, rfl⟩)), rfl, rfl, z _ _⟩
  · exact ⟨.inr (.inr (.inr (.inl ⟨rfl, rfl⟩))), rfl, rfl, z _ _⟩
/-- what stands behind an assignment -/
def asgV (v : V4) (k : Int) (x : Th) : V4 := if gdV k x = true then v.set k x else v
theorem assigned26 {v : V4} (hv : v.ok) {b e : List Pat} {k : Int} {x : Th} (hk : K4 k) (hx : VT x) : m_law_assigned (b, e, v.s) (fld k) x = some (if gdV k x = true then none else some (fld k), (asgV v k x).s) := by
  obtain ⟨sd, e1, e2, e3⟩ := set_ask (v := v) (x := x) hk
  have c := change_said (v := v) (b := b) (e := e) (V4.setk hv hk hx) sd
  rw [e1, e3, List.map_cons, List.map_nil, List.map_cons, List.map_nil, e2] at c
  obtain ⟨⟨a1, a2, a3⟩, ⟨b1, b2, b3⟩, ⟨c1, c2, c3⟩, ⟨d1, d2, d3⟩⟩ := ne26
  unfold m_law_assigned m_assign_vx asgV
  have fin : ∀ y : Option (Except Str (Unit × List (Str × Th))), y = m_Rule_change_vx [fld k] (b, e, v.s) [x] → (((y.bind fun t2 => exB t2 fun t4 => some (.ok ((), (t4.2)))) : Option (Except Str (Unit × List (Str × Th)))).bind fun t1 => exT t1 (fun (x13 : Str) => (some ((some x13), (v.s)))) fun t3 => some ((none : Option Str), (t3.2))) = some (if gdV k x = true then none else some (fld k), (if gdV k x = true then v.set k x else v).s) := fun y hy => by
    rw [hy, c]
    cases gdV k x <;> rfl
  rcases hk with rfl | rfl | rfl | rfl
  · rw [if_pos (decide_eq_true (show fld 0 = "most" from rfl))]
    exact fin _ rfl
  · rw [if_neg (by rw [decide_eq_false (show ¬ fld 1 = "most" from b1)]; decide), if_pos (decide_eq_true (show fld 1 = "alone" from rfl))]
    exact fin _ rfl
  · rw [if_neg (by rw [decide_eq_false (show ¬ fld 2 = "most" from c1)]; decide), if_neg (by rw [decide_eq_false (show ¬ fld 2 = "alone" from c2)]; decide), if_pos (decide_eq_true (show fld 2 = "tags" from rfl))]
    exact fin _ rfl
  · rw [if_neg (by rw [decide_eq_false (show ¬ fld 3 = "most" from d1)]; decide), if_neg (by rw [decide_eq_false (show ¬ fld 3 = "alone" from d2)]; decide), if_neg (by rw [decide_eq_false (show ¬ fld 3 = "tags" from d3)]; decide), if_pos (decide_eq_true (show fld 3 = "quiet" from rfl))]
    exact fin _ rfl
abbrev ODD26 : List Str := [("" : Str), ("Most" : Str), ("marks" : Str), ("begins" : Str), ("change" : Str), ("name" : Str)]
theorem odd_assigned {v : V4} {b e : List Pat} {f : Str} {x : Th} (hf : f ∈ ODD26) : m_law_assigned (b, e, v.s) f x = some (some ("name" : Str), v.s) := by
  have no : ∀ f ∈ ODD26, decide (f = "most") = false ∧ decide (f = "alone") = false ∧ decide (f = "tags") = false ∧ decide (f = "quiet") = false := by decide +kernel
  obtain ⟨n1, n2, n3, n4⟩ := no f hf
  unfold m_law_assigned m_assign_vx
  rw [n1, n2, n3, n4]
  rfl
theorem th_eq {x : Th} (h : VT x) : m_law_same x x = some true := by
  have e : thEq x x = some true := by
    rcases h with rfl | ⟨b, rfl⟩ | ⟨i, rfl⟩ | rfl | rfl | rfl
    · rfl
    · cases b <;> rfl
    · show gd true (gd true (some (PyData.eqv (.int i) (.int i)))) = _
      rw [gd_true rfl, gd_true rfl]
      exact congrArg some (PySem.SeqAt.eqv_refl _ rfl)
    · decide +kernel
    · decide +kernel
    · rfl
  unfold m_law_same
  rw [if_pos (decide_eq_true rfl), e]; rfl
/-- drawn marks: forms of few parts -/
def Fm26 (P : Pat) : Prop := ∃ ps, P = .form ps ∧ fine ps
theorem Fm26.p {P : Pat} (h : Fm26 P) : okP P := by
  obtain ⟨ps, rfl, h⟩ := h
  exact (patOf_ok (.one h)).1
theorem strs26 {f : Pat → Unit → Option (Option Str × Unit)} (hf : ∀ x, f x () = (m_pat___str__ x).bind fun t => some (some t, ())) {bs' : List Pat} (h : ∀ P ∈ bs', Fm26 P) : comp f bs' () = some (bs'.map pTxt, ()) :=
  comp_map pTxt fun P hP => by rw [hf, str_eq (h P hP).p, bs]
theorem shp26 {bs' : List Pat} (h : ∀ P ∈ bs', Fm26 P) : shp (dL dS) (bs'.map pTxt) = true := shpD (i := sL (i := sS)) fun s hs => by
  obtain ⟨P, hP, rfl⟩ := List.mem_map.mp hs
  exact lw_ok (pTxt_ok (h P hP).p.fs (h P hP).p.few).2
theorem getS {v : V4} : getSd "most" v.s = some v.m ∧ getSd "alone" v.s = some v.a ∧ getSd "tags" v.s = some v.t ∧ getSd "quiet" v.s = some v.q := by
  obtain ⟨⟨a1, a2, a3⟩, ⟨b1, b2, b3⟩, ⟨c1, c2, c3⟩, ⟨d1, d2, d3⟩⟩ := ne26
  unfold V4.s
  simp only [getSd, a1, a2, a3, b1, b2, b3, c1, c2, c3, d1, d2, d3, if_true, if_false, and_self]
theorem tells26 {v : V4} (hv : v.ok) {b e : List Pat} (hb : ∀ P ∈ b, Fm26 P) (he : ∀ P ∈ e, Fm26 P) (lb : b.length ≤ 100) (le : e.length ≤ 100) : m_law_tells (b, e, v.s) v.l (b.map pTxt) (e.map pTxt) = some true := by
  obtain ⟨g1, g2, g3, g4⟩ := getS (v := v)
  have r4 : ∀ k ∈ rng 0 4, K4 k := by unfold K4; decide
  unfold m_law_tells m_Rule_most_vo m_Rule_alone_vo m_Rule_tags_vo m_Rule_quiet_vo
  rw [show getSd "most" (b, e, v.s).2.2 = some v.m from g1, bs, bs, show getSd "alone" (b, e, v.s).2.2 = some v.a from g2, bs, bs, show getSd "tags" (b, e, v.s).2.2 = some v.t from g3, bs, bs, show getSd "quiet" (b, e, v.s).2.2 = some v.q from g4, bs, bs, gd_true (rgOk_ok (by decide) (by decide) (by decide) (by decide)), lc_nx fun k hk => ?_, bs]
  · dsimp only [aft]
    unfold m_Rule_begins_vo m_Rule_ends_vo
    rw [bs, gd_true (fitsE_ok (show b.length ≤ 16000000 by omega)), strs26 (fun _ => rfl) hb, bs, gd_true (shp26 hb), gd_true (shp26 hb), decide_eq_true rfl, if_neg (by decide), bs, gd_true (fitsE_ok (show e.length ≤ 16000000 by omega)), strs26 (fun _ => rfl) he, bs, gd_true (shp26 he), gd_true (shp26 he), decide_eq_true rfl]
  · unfold m_law_tells_b1
    rw [show atI [v.m, v.a, v.t, v.q] k = some (v.g k) from V4.at_ v (r4 k hk), bs, V4.at_ v (r4 k hk), bs, th_eq (V4.gk hv (r4 k hk)), bs, if_neg (by decide), bs, bs, decide_eq_true rfl]
    rfl
theorem set_at {v : V4} {k j : Int} {x : Th} (hk : K4 k) (hj : K4 j) : (if decide (j = k) = true then some x else (atI v.l j).bind fun t => some t) = some ((v.set k x).g j) := by
  rcases hk with rfl | rfl | rfl | rfl <;> rcases hj with rfl | rfl | rfl | rfl <;> rfl
theorem map4 (v : V4) : (rng 0 4).map v.g = v.l := rfl
theorem r4k : ∀ k ∈ rng 0 4, K4 k := by unfold K4; decide
theorem shpO (o : Option Str) (h : ∀ s, o = some s → okS s) : shp (dO dS) o = true := by
  cases o with
  | none => rfl
  | some s => exact shpD (i := sO (i := sS)) (h s rfl)
theorem fld_ok {k : Int} : okS (fld k) := by
  have h : ∀ s ∈ N4, PyData.strOk s = true := by decide +kernel
  unfold fld
  repeat' split
  all_goals exact h _ (by simp)
theorem nm_ok : shp (dO dS) (some ("name" : Str)) = true := shpO _ fun s h => by
  cases h
  show PyData.strOk _ = true
  decide +kernel
theorem tk4 {p : Int × Int} : Ok (m_law_take p 4) fun r => K4 r.1 := (take_ok (by decide) (by decide)).mono fun r h => by
  unfold K4
  have := h.1; have := h.2
  omega
theorem asked26 {n : Int} (h : 0 ≤ n ∧ n < 8) : ∃ as ks, atI [([0] : List Int), ([1] : List Int), ([2] : List Int), ([3] : List Int), ([0, 2] : List Int), ([1, 3] : List Int), ([] : List Int), ([0, 1, 2, 3] : List Int)] n = some as ∧ Said as ks := by
  have : n = 0 ∨ n = 1 ∨ n = 2 ∨ n = 3 ∨ n = 4 ∨ n = 5 ∨ n = 6 ∨ n = 7 := by omega
  unfold Said
  rcases this with rfl | rfl | rfl | rfl | rfl | rfl | rfl | rfl
  · exact ⟨_, [0], rfl, by simp⟩
  · exact ⟨_, [1], rfl, by simp⟩
  · exact ⟨_, [2], rfl, by simp⟩
  · exact ⟨_, [3], rfl, by simp⟩
  · exact ⟨_, [2, 0], rfl, by simp⟩
  · exact ⟨_, [3, 1], rfl, by simp⟩
  · exact ⟨_, [], rfl, by simp⟩
  · exact ⟨_, [3, 2, 1, 0], rfl, by simp⟩
theorem new26 {f : Int → (Int × Int) → Option (Option Th × (Int × Int))} (hf : ∀ x s, f x s = (m_law_value s x).bind fun t => some (some t.1, t.2)) {p : Int × Int} : Ok (comp f (rng 0 4) p) fun r => ∃ w : V4, w.ok ∧ r.1 = w.l :=
  (comp_allT (P := VT) fun x _ s => by rw [hf]; exact Ok.bd value_ok fun t ht => Ok.sm ⟨_, rfl, ht⟩).mono fun r ⟨h1, h2⟩ => by
    obtain ⟨l, q⟩ := r
    dsimp only at h1 h2 ⊢
    match l, h1, h2 with
    | [a, b, c, d], _, h2 => exact ⟨⟨a, b, c, d⟩, ⟨h2 _ (by simp), h2 _ (by simp), h2 _ (by simp), h2 _ (by simp)⟩, rfl⟩
theorem ask_at {v w : V4} {as ks : List Int} (h : Said as ks) {j : Int} (hj : K4 j) : (if decide (j ∈ as) = true then (atI w.l j).bind fun t => some t else (atI v.l j).bind fun t => some t) = some ((askV v w as).g j) := by
  rcases h with ⟨rfl, rfl⟩ | ⟨rfl, rfl⟩ | ⟨rfl, rfl⟩ | ⟨rfl, rfl⟩ | ⟨rfl, rfl⟩ | ⟨rfl, rfl⟩ | ⟨rfl, rfl⟩ | ⟨rfl, rfl⟩ <;> rcases hj with rfl | rfl | rfl | rfl <;> rfl
theorem ask_ok {v w : V4} (hv : v.ok) (hw : w.ok) {as ks : List Int} (h : Said as ks) : (askV v w as).ok := by
  have st : ∀ {as : List Int} {u : V4}, (∀ k ∈ as, K4 k) → u.ok → (askV u w as).ok := fun {as} => by
    induction as with
    | nil => exact fun _ hu => hu
    | cons k as ih => exact fun hk hu => ih (fun k h => hk k (List.mem_cons_of_mem _ h)) (V4.setk hu (hk k List.mem_cons_self) (V4.gk hw (hk k List.mem_cons_self)))
  exact st (said_k h).1 hv
theorem check_plain {v : V4} (hv : v.ok) (hd : dueV v [0, 1, 2, 3] = none) : m_check_settings v.s = some () := by
  have no := find_all (w := v)
  rw [hd] at no
  have no := List.find?_eq_none.mp no
  unfold m_check_settings
  rw [loop_unit fun f hf => ?_, bs]
  have g := no f hf
  unfold m_check_settings_b1
  unfold badF at g
  cases h : getSd f v.s with
  | none => rfl
  | some t =>
    rw [h] at g
    show ((if true = true then (some t).bind _ else _).bind _) = _
    have g : gdV (idx f) t = true := by simpa using g
    rw [if_pos rfl, bs, allow26 (n4_idx f hf) (get_zip hv k4_all f t (by rw [← s_zip]; exact h)), bs, g, bs]
    rfl
def v0 : V4 := ⟨.d .none, .d (.bool true), .d .none, .d (.bool false)⟩
theorem v0_ok : v0.ok := ⟨.inl rfl, .inr (.inl ⟨_, rfl⟩), .inl rfl, .inr (.inl ⟨_, rfl⟩)⟩
section
variable {b e : List Pat} (hb : ∀ P ∈ b, Fm26 P) (he : ∀ P ∈ e, Fm26 P) (lb : b.length ≤ 100) (le : e.length ≤ 100)
include hb he lb le
theorem assigns26 {p : Int × Int} {v : V4} (hv : v.ok) : Ok (m_law_assigns p (b, e, v.s) v.l (b.map pTxt) (e.map pTxt)) fun r => ∃ w : V4, w.ok ∧ r.1 = (some w.l, w.s) := by
  unfold m_law_assigns
  refine Ok.gd (rgOk_ok (by decide) (by decide) (by decide) (by decide)) (Ok.bd (Ok.loopN (fun _ s => ∃ w : V4, w.ok ∧ s.2 = (w.s, w.l)) ⟨v, hv, rfl⟩ fun pre x post s q ⟨w, hw, hs⟩ => ?_) ?_)
  · obtain ⟨s1, s2⟩ := s
    dsimp only at hs
    subst hs
    unfold m_law_assigns_b2
    refine Ok.bd tk4 fun t33 hk => Ok.bd value_ok fun t43 hx => Ok.gd (by rfl) ?_
    have r : repL [t43.1] 4 = (V4.mk t43.1 t43.1 t43.1 t43.1).l := rfl
    have z : dueV (V4.mk t43.1 t43.1 t43.1 t43.1) [t33.1] = if gdV t33.1 t43.1 = true then none else some (fld t33.1) := by
      have g : (V4.mk t43.1 t43.1 t43.1 t43.1).g t33.1 = t43.1 := by
        unfold V4.g
        repeat' split
        all_goals rfl
      unfold dueV
      rw [List.find?_cons, List.find?_nil, g]
      cases gdV t33.1 t43.1 <;> rfl
    rw [r]
    refine Ok.bde (due26 ⟨hx, hx, hx, hx⟩ fun k h => by rw [List.mem_singleton.mp h]; exact hk) ?_
    rw [z]
    refine Ok.bde rfl (Ok.bde (fld_at hk) (Ok.bde (assigned26 hw hk hx) ?_))
    have sh : shp (dO dS) (if gdV t33.1 t43.1 = true then none else some (fld t33.1)) = true := shpO _ fun s h => by
      split at h
      · cases h
      · cases h; exact fld_ok
    refine Ok.gd sh (Ok.gd sh ?_)
    rw [decide_eq_true rfl, if_neg (by decide)]
    have wok : (asgV w t33.1 t43.1).ok := by
      unfold asgV
      split
      · exact V4.setk hw hk hx
      · exact hw
    refine Ok.bde (a := (asgV w t33.1 t43.1).l) ?_ ?_
    · unfold asgV
      cases gdV t33.1 t43.1 with
      | false => rfl
      | true =>
        show (if (none : Option Str).isNone = true then _ else _) = _
        rw [if_pos rfl, gd_true (rgOk_ok (by decide) (by decide) (by decide) (by decide)), gd_true (fitsE_ok (by decide)), comp_map (w.set t33.1 t43.1).g fun j hj => ?_, bs]
        · rfl
        · unfold m_law_assigns_b1
          rw [set_at hk (r4k j hj), bs]
    refine Ok.bd (take_ok (by decide) (by decide)) fun t197 h197 => ?_
    obtain ⟨f, hf, hm⟩ : ∃ f, atI ODD26 t197.1 = some f ∧ f ∈ ODD26 := by
      have h1 := h197.1; have h2 := h197.2
      have i := List.getElem?_eq_getElem (l := ODD26) (i := t197.1.toNat) (by show t197.1.toNat < 6; omega)
      exact ⟨_, by rw [atI_nn h1 (by show t197.1 < 6; exact h2)]; exact i, List.getElem_mem _⟩
    refine Ok.bde hf (Ok.bde (odd_assigned hm) ?_)
    refine Ok.gd nm_ok (Ok.gd nm_ok (Ok.bde (a := false) ?_ ?_))
    · rw [decide_eq_true rfl, if_neg (by decide)]
      show ((m_law_tells (b, e, (asgV w t33.1 t43.1).s) (asgV w t33.1 t43.1).l _ _).bind _) = _
      rw [tells26 wok hb he lb le]; rfl
    rw [if_neg (by decide)]
    exact Ok.sm ⟨_, rfl, _, wok, rfl⟩
  · rintro _ ⟨s, rfl, w, hw, hs⟩
    obtain ⟨s1, s2⟩ := s
    dsimp only at hs
    subst hs
    exact Ok.sm ⟨w, hw, rfl⟩
theorem changes26 {p : Int × Int} {v : V4} (hv : v.ok) : Ok (m_law_changes p (b, e, v.s) v.l (b.map pTxt) (e.map pTxt)) fun r => r.1.1 = true := by
  unfold m_law_changes
  refine Ok.bd (assigns26 hb he lb le hv) fun t1 ⟨w0, hw0, h1⟩ => ?_
  obtain ⟨t1, t1p⟩ := t1
  dsimp only at h1
  subst h1
  rw [if_neg (show ¬ (some w0.l : Option (List Th)).isNone = true from Bool.false_ne_true)]
  refine Ok.gd (rgOk_ok (by decide) (by decide) (by decide) (by decide)) (Ok.bd (Ok.loopN (fun _ s => ∃ w : V4, w.ok ∧ s.2 = (w.s, some w.l)) ⟨w0, hw0, rfl⟩ fun pre x post s q ⟨v, hv, hs⟩ => ?_) ?_)
  · obtain ⟨s1, s2⟩ := s
    dsimp only at hs
    subst hs
    unfold m_law_changes_b3
    refine Ok.bd (take_ok (by decide) (by decide)) fun t101 h101 => ?_
    obtain ⟨as, ks, e1, sd⟩ := asked26 h101
    refine Ok.bde e1 (Ok.gd (rgOk_ok (by decide) (by decide) (by decide) (by decide)) (Ok.gd (fitsE_ok (by decide)) (Ok.bd (new26 (fun _ _ => rfl)) fun t117 ⟨w, hw, e2⟩ => ?_)))
    obtain ⟨t117, t117p⟩ := t117
    dsimp only at e2
    subst e2
    refine Ok.bde (due26 hw (said_k sd).1) (Ok.bde (change26 hw sd) ?_)
    have sh : shp (dO dS) (dueV w as) = true := shpO _ fun s h => by
      unfold dueV at h
      obtain ⟨k, _, rfl⟩ := Option.map_eq_some_iff.mp h
      exact fld_ok
    refine Ok.gd sh (Ok.gd sh ?_)
    rw [decide_eq_true rfl, if_neg (by decide)]
    have wok : (aftV v w as).ok := by
      unfold aftV
      split
      · exact ask_ok hv hw sd
      · exact hv
    refine Ok.bde (a := some (aftV v w as).l) ?_ (Ok.bde (a := w.m) rfl (Ok.bde strange26 (Ok.bde (a := false) ?_ ?_)))
    · unfold aftV
      cases (dueV w as).isNone with
      | false => rfl
      | true =>
        rw [if_pos rfl, if_pos rfl, gd_true (rgOk_ok (by decide) (by decide) (by decide) (by decide)), gd_true (fitsE_ok (by decide)), comp_map (askV v w as).g fun j hj => ?_, bs]
        · rfl
        · unfold m_law_changes_b2
          show ((if decide (j ∈ as) = true then (atI w.l j).bind fun t => some t else (atI v.l j).bind fun t => some t).bind _) = _
          rw [ask_at sd (r4k j hj), bs]
    · rw [if_neg (show ¬ (!true) = true by decide), bs]
      show ((m_law_tells (b, e, (aftV v w as).s) (aftV v w as).l _ _).bind _) = _
      rw [tells26 wok hb he lb le]; rfl
    rw [if_neg (by decide)]
    exact Ok.sm ⟨_, rfl, _, wok, rfl⟩
  · rintro _ ⟨s, rfl, w, hw, hs⟩
    exact Ok.sm rfl
theorem init26 {v : V4} (hv : v.ok) (hd : dueV v [0, 1, 2, 3] = none) (hl : ¬ (6 : Int) < (b.length : Int) + (e.length : Int)) : m_Rule___init__ b e v.m v.a v.t v.q = some (b, e, v.s) := by
  unfold m_Rule___init__
  rw [if_neg (by rw [decide_eq_false hl]; decide)]
  show ((m_check_settings v.s).bind _) = _
  rw [check_plain hv hd]; rfl
theorem initx26 {v : V4} (hv : v.ok) : m_Rule___init___vx b e v.m v.a v.t v.q = some (if (6 : Int) < (b.length : Int) + (e.length : Int) then .error "marks" else (dueV v [0, 1, 2, 3]).elim (.ok (b, e, v.s)) .error) := by
  unfold m_Rule___init___vx
  by_cases hl : (6 : Int) < (b.length : Int) + (e.length : Int)
  · rw [if_pos (decide_eq_true hl), if_pos hl]
  · rw [if_neg (by rw [decide_eq_false hl]; decide), if_neg hl]
    show ((m_check_settings_vx v.s).bind _) = _
    rw [check_s hv, bs]
    cases dueV v [0, 1, 2, 3] <;> rfl
theorem rules26 {p : Int × Int} {v : V4} (hv : v.ok) (hd : dueV v [0, 1, 2, 3] = none) (hl : ¬ (6 : Int) < (b.length : Int) + (e.length : Int)) : Ok (m_law_rules p b e v.l) fun r => r.1 = true := by
  have nl : v.s.all (fun e => thNoL e.2) = true := by
    show (thNoL v.m && (thNoL v.a && (thNoL v.t && (thNoL v.q && true)))) = true
    rw [hv.m.nol, hv.a.nol, hv.t.nol, hv.q.nol]; rfl
  have d0 : dueV v0 [0, 1, 2, 3] = none := by decide +kernel
  have fx : m_Form___init__ [("x" : Str)] = some [("x" : Str)] := by decide +kernel
  have fy : m_Form___init__ [("y" : Str)] = some [("y" : Str)] := by decide +kernel
  have hfb : fits b = true := fits_ok (by omega)
  have hfe : fits e = true := fits_ok (by omega)
  unfold m_law_rules
  refine Ok.gd (fitsE_ok (by omega)) (Ok.bde (strs26 (fun _ => rfl) hb) (Ok.gd (fitsE_ok (by omega)) (Ok.bde (strs26 (fun _ => rfl) he) (Ok.bde (a := v.m) rfl (Ok.bde (a := v.a) rfl (Ok.bde (a := v.t) rfl (Ok.bde (a := v.q) rfl (Ok.bde (init26 hb he lb le hv hd hl) (Ok.gd nl (Ok.bde (init26 (v := v0) hb he lb le v0_ok d0 hl) (Ok.bde fx (Ok.gd hfb (Ok.bde (a := b) rfl (Ok.bde fy (Ok.gd hfb (Ok.bde (a := e) rfl (Ok.bde fy (Ok.gd hfe (Ok.bde (a := b.map pTxt) rfl (Ok.bde (a := e.map pTxt) rfl (Ok.bde (tells26 hv hb he lb le) ?_)))))))))))))))))))))
  rw [if_neg (by decide)]
  refine Ok.bde (a := b.map pTxt) rfl (Ok.bde (a := e.map pTxt) rfl (Ok.bd (changes26 hb he lb le hv) fun t ht => ?_))
  rw [ht, if_neg (by decide)]
  exact Ok.bde (a := b.map pTxt) rfl (Ok.bde (a := e.map pTxt) rfl (Ok.bde (tells26 (v := v0) v0_ok hb he lb le) (Ok.sm rfl)))
end
theorem marks26 {f : Int → (Int × Int) → Option (Option Pat × (Int × Int))} (hf : ∀ x s, f x s = (m_law_parts s).bind fun t => (m_law_form t.1).bind fun u => some (some (Pat.form u), t.2)) {xs : List Int} {p : Int × Int} : Ok (comp f xs p) fun r => r.1.length = xs.length ∧ ∀ P ∈ r.1, Fm26 P :=
  comp_allT fun x _ s => by rw [hf]; exact Ok.bd parts_fine fun t ht => Ok.bde (form3_eq ht) (Ok.sm ⟨_, rfl, _, rfl, ht⟩)
theorem math (ns : List Int) (h : ns.length ≤ 63) : m_law ns = some true := by
  unfold m_law
  have hm : 0 ≤ maxI 1 (minI 5 (ns.length : Int)) ∧ maxI 1 (minI 5 (ns.length : Int)) ≤ 63 := by
    unfold maxI minI
    split <;> split <;> omega
  refine Ok.eq (Ok.gd (rgOk_ok (by omega) (by omega) (by omega) (by omega)) (Ok.bd (Ok.loopN (fun _ _ => True) trivial fun pre k post q e _ => ?_) ?_))
  · have hk := (rng_at e).2.2
    unfold m_law_b4
    refine Ok.bd (pool_ok (by omega) (by omega)) fun p1 _ => Ok.bd (take_ok (by decide) (by decide)) fun t37 h37 => ?_
    have l37 : (rng 0 t37.1).length ≤ 4 := by rw [rng_len]; omega
    refine Ok.gd (rgOk_ok (by omega) (by omega) (by omega) (by omega)) (Ok.gd (fitsE_ok (by omega)) (Ok.bd (marks26 fun _ _ => rfl) fun t49 ⟨bl, hb⟩ => Ok.bd (take_ok (by decide) (by decide)) fun t111 h111 => ?_))
    have l111 : (rng 0 t111.1).length ≤ 5 := by rw [rng_len]; omega
    refine Ok.gd (rgOk_ok (by omega) (by omega) (by omega) (by omega)) (Ok.gd (fitsE_ok (by omega)) (Ok.bd (marks26 fun _ _ => rfl) fun t123 ⟨el, he⟩ => ?_))
    refine Ok.gd (rgOk_ok (by omega) (by omega) (by omega) (by omega)) (Ok.gd (fitsE_ok (by decide)) (Ok.bd (new26 (fun _ _ => rfl)) fun t187 ⟨v, hv, e2⟩ => ?_))
    obtain ⟨t187, t187p⟩ := t187
    obtain ⟨b, bp⟩ := t49
    obtain ⟨ee, ep⟩ := t123
    dsimp only at e2 bl el hb he ⊢
    subst e2
    have lb : b.length ≤ 100 := by omega
    have le : ee.length ≤ 100 := by omega
    refine Ok.bde (due26 hv k4_all) ?_
    let D : Option Str := if (6 : Int) < (b.length : Int) + (ee.length : Int) then some ("marks" : Str) else dueV v [0, 1, 2, 3]
    have hD : (if decide (6 < (((b).length : Int) + ((ee).length : Int))) = true then (some ((some ("marks" : Str)))) else (some (dueV v [0, 1, 2, 3]))) = some D := by
      show _ = some (if (6 : Int) < (b.length : Int) + (ee.length : Int) then some ("marks" : Str) else dueV v [0, 1, 2, 3])
      by_cases hl : (6 : Int) < (b.length : Int) + (ee.length : Int)
      · rw [if_pos (decide_eq_true hl), if_pos hl]
      · rw [if_neg (by rw [decide_eq_false hl]; decide), if_neg hl]
    have ix := initx26 hb he lb le hv
    have rf : m_law_refused b ee v.l = some D := by
      unfold m_law_refused
      show ((m_Rule___init___vx b ee v.m v.a v.t v.q).bind _) = _
      rw [ix, bs]
      show _ = some (if (6 : Int) < (b.length : Int) + (ee.length : Int) then some ("marks" : Str) else dueV v [0, 1, 2, 3])
      by_cases hl : (6 : Int) < (b.length : Int) + (ee.length : Int)
      · rw [if_pos hl, if_pos hl]; rfl
      · rw [if_neg hl, if_neg hl]
        cases dueV v [0, 1, 2, 3] <;> rfl
    have bl' : m_law_below b ee v.l = some D.isSome := by
      unfold m_law_below
      show ((m_Rule___init___vx b ee v.m v.a v.t v.q).bind _) = _
      rw [ix, bs]
      show _ = some (if (6 : Int) < (b.length : Int) + (ee.length : Int) then some ("marks" : Str) else dueV v [0, 1, 2, 3]).isSome
      by_cases hl : (6 : Int) < (b.length : Int) + (ee.length : Int)
      · rw [if_pos hl, if_pos hl]; rfl
      · rw [if_neg hl, if_neg hl]
        cases dueV v [0, 1, 2, 3] <;> rfl
    refine Ok.bde hD (Ok.bde rf ?_)
    have sh : shp (dO dS) D = true := shpO _ fun s h => by
      have h : (if (6 : Int) < (b.length : Int) + (ee.length : Int) then some ("marks" : Str) else dueV v [0, 1, 2, 3]) = some s := h
      by_cases hl : (6 : Int) < (b.length : Int) + (ee.length : Int)
      · rw [if_pos hl] at h; cases h
        show PyData.strOk _ = true
        decide +kernel
      · rw [if_neg hl] at h
        unfold dueV at h
        obtain ⟨k, _, rfl⟩ := Option.map_eq_some_iff.mp h
        exact fld_ok
    refine Ok.gd sh (Ok.gd sh ?_)
    rw [decide_eq_true rfl, if_neg (by decide)]
    cases hDD : D with
    | none =>
      have hDD : (if (6 : Int) < (b.length : Int) + (ee.length : Int) then some ("marks" : Str) else dueV v [0, 1, 2, 3]) = none := hDD
      have hl : ¬ (6 : Int) < (b.length : Int) + (ee.length : Int) := fun hl => by rw [if_pos hl] at hDD; cases hDD
      rw [if_neg hl] at hDD
      refine Ok.bd (P := fun t => t.1 = false) ?_ fun t ht => ?_
      · rw [if_pos (show (none : Option Str).isNone = true from rfl)]
        exact Ok.bd (rules26 hb he lb le hv hDD hl) fun t ht => Ok.sm (by rw [ht]; rfl)
      · rw [ht, if_neg (by decide)]
        refine Ok.bde (a := false) rfl ?_
        rw [if_neg (by decide)]
        exact Ok.sm ⟨_, rfl, trivial⟩
    | some f =>
      rw [hDD] at bl'
      refine Ok.bde (a := (false, t187p)) rfl ?_
      rw [if_neg (show ¬ false = true by decide)]
      refine Ok.bde (a := false) (by rw [if_pos (show (!(some f).isNone) = true from rfl)]; show ((m_law_below b ee v.l).bind _) = _; rw [bl']; rfl) ?_
      rw [if_neg (by decide)]
      exact Ok.sm ⟨_, rfl, trivial⟩
  · rintro _ ⟨_, rfl, _⟩
    exact Ok.sm rfl

theorem txHead {P : Program} {K : PySem.W.Frag} {h : Heap} {mg : Str → Option Value} (X : K.In h) (G : h.Ns mainGlobals mg) (c : He.SaysD fa fn K) (t : tabs P K = true) (e_NoRule : fw_NoRule K) (e_Rule_most : fw_Rule_most K) (e_Rule_alone : fw_Rule_alone K) (e_Rule_tags : fw_Rule_tags K) (e_Rule_quiet : fw_Rule_quiet K) (e_Rule_alone_vset : fw_Rule_alone_vset K) (e_Rule_most_vset : fw_Rule_most_vset K) (e_Rule_quiet_vset : fw_Rule_quiet_vset K) (e_Rule_tags_vset : fw_Rule_tags_vset K) : Tx P K mg := {
  F_law_pool := fd_of c 0
  g_law_pool := He.glo_ok X G (c.fact 0)
  F_law_good := fd_of c 1
  g_law_good := He.glo_ok X G (c.fact 1)
  F_law_fields := fd_of c 2
  g_law_fields := He.glo_ok X G (c.fact 2)
  F_law_due := fd_of c 3
  g_law_due := He.glo_ok X G (c.fact 3)
  F_is_line := fd_of c 4
  g_is_line := He.glo_ok X G (c.fact 4)
  F_is_allowed := fd_of c 5
  g_is_allowed := He.glo_ok X G (c.fact 5)
  F_Form___init__ := fd_of c 6
  F_law_form := fd_of c 7
  g_law_form := He.glo_ok X G (c.fact 6)
  F_law_take := fd_of c 8
  g_law_take := He.glo_ok X G (c.fact 7)
  F_law_value := fd_of c 9
  g_law_value := He.glo_ok X G (c.fact 8)
  F_is_allowed_rules := fd_of c 10
  g_is_allowed_rules := He.glo_ok X G (c.fact 9)
  F_check_settings := fd_of c 11
  g_check_settings := He.glo_ok X G (c.fact 10)
  F_Rule___init__ := fd_of c 12
  F_law_refused := fd_of c 13
  g_law_refused := He.glo_ok X G (c.fact 11)
  F_law_all_signs := fd_of c 14
  g_law_all_signs := He.glo_ok X G (c.fact 12)
  F_law_text := fd_of c 15
  g_law_text := He.glo_ok X G (c.fact 13)
  F_law_parts := fd_of c 16
  g_law_parts := He.glo_ok X G (c.fact 14)
  F_Form___str__ := fd_of c 17
  F_Both___str__ := fd_of c 18
  F_Either___str__ := fd_of c 19
  F_Rule_begins := fd_of c 20
  F_Rule_ends := fd_of c 21
  F_Rule_change := fd_of c 22
  F_law_same := fd_of c 23
  g_law_same := He.glo_ok X G (c.fact 15)
  F_law_tells := fd_of c 24
  g_law_tells := He.glo_ok X G (c.fact 16)
  F_assign := fd_of c 25
  g_assign := He.glo_ok X G (c.fact 17)
  F_law_assigned := fd_of c 26
  g_law_assigned := He.glo_ok X G (c.fact 18)
  F_law_assigns := fd_of c 27
  g_law_assigns := He.glo_ok X G (c.fact 19)
  F_law_change := fd_of c 28
  g_law_change := He.glo_ok X G (c.fact 20)
  F_law_strange := fd_of c 29
  g_law_strange := He.glo_ok X G (c.fact 21)
  F_law_changes := fd_of c 30
  g_law_changes := He.glo_ok X G (c.fact 22)
  F_law_rules := fd_of c 31
  g_law_rules := He.glo_ok X G (c.fact 23)
  F_law_below := fd_of c 32
  g_law_below := He.glo_ok X G (c.fact 24)
  F_law := fd_of c 33
  g_law := He.glo_ok X G (c.fact 25)
  c_Form := He.cls_ok (c.fact 27)
  gc_Form := He.glo_ok X G (c.fact 26)
  na_Form_pieces := He.noat_ok (c.fact 28)
  mk_Form := He.mkr_ok (c.fact 29)
  me_Form___str__ := He.meth_ok (c.fact 30)
  c_Both := He.cls_ok (c.fact 32)
  gc_Both := He.glo_ok X G (c.fact 31)
  na_Both_left := He.noat_ok (c.fact 33)
  na_Both_right := He.noat_ok (c.fact 34)
  me_Both___str__ := He.meth_ok (c.fact 35)
  c_Either := He.cls_ok (c.fact 37)
  gc_Either := He.glo_ok X G (c.fact 36)
  na_Either_left := He.noat_ok (c.fact 38)
  na_Either_right := He.noat_ok (c.fact 39)
  me_Either___str__ := He.meth_ok (c.fact 40)
  c_Rule := He.cls_ok (c.fact 42)
  gc_Rule := He.glo_ok X G (c.fact 41)
  na_Rule_openers := He.noat_ok (c.fact 43)
  na_Rule_closers := He.noat_ok (c.fact 44)
  na_Rule_settings := He.noat_ok (c.fact 45)
  mk_Rule := He.mkr_ok (c.fact 46)
  me_Rule_begins := He.meth_ok (c.fact 47)
  me_Rule_ends := He.meth_ok (c.fact 48)
  me_Rule_change := He.meth_ok (c.fact 49)
  pf := patB_ok (He.ba t).1 (He.cls_ok (c.fact 27)) (He.cls_ok (c.fact 32)) (He.cls_ok (c.fact 37))
  er_NoRule := er_ok X G (He.ba (He.ba (He.ba (He.ba t).2).2).2).1 e_NoRule
  xm_NoRule_GlueError := exmB_ok (He.ba (He.ba (He.ba (He.ba (He.ba t).2).2).2).2).1
  xm_NoRule_NoRule := exmB_ok (He.ba (He.ba (He.ba (He.ba (He.ba (He.ba t).2).2).2).2).2).1
  ie_NoRule := (He.ba (He.ba (He.ba (He.ba (He.ba (He.ba (He.ba t).2).2).2).2).2).2).1
  ki_NoRule_NoRule := (He.ba (He.ba (He.ba (He.ba (He.ba (He.ba (He.ba (He.ba t).2).2).2).2).2).2).2).1
  pr_Rule_most := pr_ok (He.ba (He.ba (He.ba (He.ba (He.ba (He.ba (He.ba (He.ba (He.ba t).2).2).2).2).2).2).2).2).1 e_Rule_most
  pr_Rule_alone := pr_ok (He.ba (He.ba (He.ba (He.ba (He.ba (He.ba (He.ba (He.ba (He.ba (He.ba t).2).2).2).2).2).2).2).2).2).1 e_Rule_alone
  pr_Rule_tags := pr_ok (He.ba (He.ba (He.ba (He.ba (He.ba (He.ba (He.ba (He.ba (He.ba (He.ba (He.ba t).2).2).2).2).2).2).2).2).2).2).1 e_Rule_tags
  pr_Rule_quiet := pr_ok (He.ba (He.ba (He.ba (He.ba (He.ba (He.ba (He.ba (He.ba (He.ba (He.ba (He.ba (He.ba t).2).2).2).2).2).2).2).2).2).2).2).1 e_Rule_quiet
  ps_Rule_alone_vset := ps_ok (He.ba (He.ba (He.ba (He.ba (He.ba (He.ba (He.ba (He.ba (He.ba (He.ba (He.ba (He.ba (He.ba t).2).2).2).2).2).2).2).2).2).2).2).2).1 e_Rule_alone_vset
  ps_Rule_most_vset := ps_ok (He.ba (He.ba (He.ba (He.ba (He.ba (He.ba (He.ba (He.ba (He.ba (He.ba (He.ba (He.ba (He.ba (He.ba t).2).2).2).2).2).2).2).2).2).2).2).2).2).1 e_Rule_most_vset
  ps_Rule_quiet_vset := ps_ok (He.ba (He.ba (He.ba (He.ba (He.ba (He.ba (He.ba (He.ba (He.ba (He.ba (He.ba (He.ba (He.ba (He.ba (He.ba t).2).2).2).2).2).2).2).2).2).2).2).2).2).2).1 e_Rule_quiet_vset
  ps_Rule_tags_vset := ps_ok (He.ba (He.ba (He.ba (He.ba (He.ba (He.ba (He.ba (He.ba (He.ba (He.ba (He.ba (He.ba (He.ba (He.ba (He.ba (He.ba t).2).2).2).2).2).2).2).2).2).2).2).2).2).2).2).1 e_Rule_tags_vset
  gx_GlueError := He.glo_ok X G (c.fact 50)
  gx_NoRule := He.glo_ok X G (c.fact 51)
  k_ANY_CELL := He.str_ok X G (c.fact 61)
  g_FIELDS := He.glo_ok X G (c.fact 62)
  q_FIELDS := fun F => ⟨_, _, rfl, He.tupB_ok (He.ba (He.ba t).2).1 F, (.cons rfl (.cons rfl (.cons rfl (.cons rfl .nil))))⟩
  g_FREE_CELLS := He.glo_ok X G (c.fact 63)
  q_FREE_CELLS := fun F => ⟨_, _, rfl, He.tupB_ok (He.ba (He.ba (He.ba t).2).2).1 F, (.cons rfl (.cons rfl (.cons rfl .nil)))⟩
  k_MOST_PARTS := He.int_ok X G (c.fact 64)
  k_MOST_SIGNS := He.int_ok X G (c.fact 65)
  k_SIGNS := He.str_ok X G (c.fact 66)
  n_bool := He.free_ok X G (c.fact 52)
  n_int := He.free_ok X G (c.fact 53)
  n_isinstance := He.free_ok X G (c.fact 54)
  n_len := He.free_ok X G (c.fact 55)
  n_list := He.free_ok X G (c.fact 56)
  n_max := He.free_ok X G (c.fact 57)
  n_min := He.free_ok X G (c.fact 58)
  n_range := He.free_ok X G (c.fact 59)
  n_str := He.free_ok X G (c.fact 60)
}

theorem law_fn {P : Program} {w : World} {K : PySem.W.Frag} {h : Heap} {mg : Str → Option Value} {f : Addr} (X : K.In h) (G : h.Ns mainGlobals mg) (hfa : mg ("law" : Str) = some (.ref f)) (c : He.SaysD fa fn K) (t : tabs P K = true) (e_NoRule : fw_NoRule K) (e_Rule_most : fw_Rule_most K) (e_Rule_alone : fw_Rule_alone K) (e_Rule_tags : fw_Rule_tags K) (e_Rule_quiet : fw_Rule_quiet K) (e_Rule_alone_vset : fw_Rule_alone_vset K) (e_Rule_most_vset : fw_Rule_most_vset K) (e_Rule_quiet_vset : fw_Rule_quiet_vset K) (e_Rule_tags_vset : fw_Rule_tags_vset K) :
    ∃ (K' : PySem.W.Frag) (fd : FuncData) (sp : L2.Sp), K'.In h ∧ (∀ (s : Shared) (v : Value), BindsTo s fd ⟨[v], []⟩ [("_law_script", v)]) ∧ (∀ (H : Hp) (a : Addr) (ns : List Int), ns.length ≤ 63 → Only H → SqL K' H a (ns.map V.int) → sp [.ref a] H (fun v _ => v = .bl true) fun _ _ _ => False) ∧ ∀ base : Heap, K'.In base → base.Ns mainGlobals mg → FnOk P w K' mg base CX0 17 f fd ["_law_script"] sp := by
  have T : Tx P K mg := txHead X G c t e_NoRule e_Rule_most e_Rule_alone e_Rule_tags e_Rule_quiet e_Rule_alone_vset e_Rule_most_vset e_Rule_quiet_vset e_Rule_tags_vset
  have e := hfa.symm.trans T.g_law
  cases e
  have b := FunD.bindsA (ps := ["_law_script"]) T.F_law fun _ _ _ _ _ _ us hl => match us, hl with | [_], _ => rfl
  refine ⟨K, _, sp_law K, X, fun s v => b s [v] rfl, fun H a ns hl _ hS => ?_, fun base _ _ => ok_law T⟩
  exact ⟨H, .ref a, ns, true, rfl, Same.refl H, ⟨a, rfl, hS⟩, math ns hl, fun v F' H' _ hv => hv⟩
theorem hk_says {K : PySem.W.Frag} (c : obK K = (true, [rhs_NoRule, rhs_Rule_most, rhs_Rule_alone, rhs_Rule_tags, rhs_Rule_quiet, rhs_Rule_alone_vset, rhs_Rule_most_vset, rhs_Rule_quiet_vset, rhs_Rule_tags_vset], He.valD fn)) : He.SaysD fa fn K ∧ tabs RR.prog K = true ∧ fw_NoRule K ∧ fw_Rule_most K ∧ fw_Rule_alone K ∧ fw_Rule_tags K ∧ fw_Rule_quiet K ∧ fw_Rule_alone_vset K ∧ fw_Rule_most_vset K ∧ fw_Rule_quiet_vset K ∧ fw_Rule_tags_vset K := by
  have h1 : (tabs RR.prog K && decide ((fwL_NoRule K).map (fun z => z.2.2.2.2.2.2.1) = some (clo_NoRule K)) && decide ((fwL_Rule_most K).map (fun z => z.2.2.2.2.2.2.1) = some (clo_Rule_most K)) && decide ((fwL_Rule_alone K).map (fun z => z.2.2.2.2.2.2.1) = some (clo_Rule_alone K)) && decide ((fwL_Rule_tags K).map (fun z => z.2.2.2.2.2.2.1) = some (clo_Rule_tags K)) && decide ((fwL_Rule_quiet K).map (fun z => z.2.2.2.2.2.2.1) = some (clo_Rule_quiet K)) && decide ((fwL_Rule_alone_vset K).map (fun z => z.2.2.2.2.2.2.1) = some (clo_Rule_alone_vset K)) && decide ((fwL_Rule_most_vset K).map (fun z => z.2.2.2.2.2.2.1) = some (clo_Rule_most_vset K)) && decide ((fwL_Rule_quiet_vset K).map (fun z => z.2.2.2.2.2.2.1) = some (clo_Rule_quiet_vset K)) && decide ((fwL_Rule_tags_vset K).map (fun z => z.2.2.2.2.2.2.1) = some (clo_Rule_tags_vset K))) = true := congrArg Prod.fst c
  have h2 : ([lhs_NoRule K, lhs_Rule_most K, lhs_Rule_alone K, lhs_Rule_tags K, lhs_Rule_quiet K, lhs_Rule_alone_vset K, lhs_Rule_most_vset K, lhs_Rule_quiet_vset K, lhs_Rule_tags_vset K] : List FnU) = [rhs_NoRule, rhs_Rule_most, rhs_Rule_alone, rhs_Rule_tags, rhs_Rule_quiet, rhs_Rule_alone_vset, rhs_Rule_most_vset, rhs_Rule_quiet_vset, rhs_Rule_tags_vset] := congrArg (fun z : Bool × List FnU × He.AlD => z.2.1) c
  have h3 : He.SaysD fa fn K := congrArg (fun z : Bool × List FnU × He.AlD => z.2.2) c
  obtain ⟨h1, b8⟩ := He.ba h1
  obtain ⟨h1, b7⟩ := He.ba h1
  obtain ⟨h1, b6⟩ := He.ba h1
  obtain ⟨h1, b5⟩ := He.ba h1
  obtain ⟨h1, b4⟩ := He.ba h1
  obtain ⟨h1, b3⟩ := He.ba h1
  obtain ⟨h1, b2⟩ := He.ba h1
  obtain ⟨h1, b1⟩ := He.ba h1
  obtain ⟨h1, b0⟩ := He.ba h1
  obtain ⟨a0, h2⟩ := List.cons.inj h2
  obtain ⟨a1, h2⟩ := List.cons.inj h2
  obtain ⟨a2, h2⟩ := List.cons.inj h2
  obtain ⟨a3, h2⟩ := List.cons.inj h2
  obtain ⟨a4, h2⟩ := List.cons.inj h2
  obtain ⟨a5, h2⟩ := List.cons.inj h2
  obtain ⟨a6, h2⟩ := List.cons.inj h2
  obtain ⟨a7, h2⟩ := List.cons.inj h2
  obtain ⟨a8, h2⟩ := List.cons.inj h2
  exact ⟨h3, h1, fw_mk a0 b0, fw_mk a1 b1, fw_mk a2 b2, fw_mk a3 b3, fw_mk a4 b4, fw_mk a5 b5, fw_mk a6 b6, fw_mk a7 b7, fw_mk a8 b8⟩
end Law
open PySem PySem.W PySem.Calls PyProof.Rows
theorem PySem.Challenge.cw_gluedlines_k26_rules_made_and_changed_holds : PySem.Challenge.rw_gluedlines_k26_rules_made_and_changed.Holds := by
  w_on; o_law
  refine HandSHeadRun.head_any (r := OpenLaw.row PySem.Challenge.rw_gluedlines_k26_rules_made_and_changed) (q := view (OpenLaw.row PySem.Challenge.rw_gluedlines_k26_rules_made_and_changed).prog [60]) (H := Law.hk) (ob := Law.ob) (M := 60000) (loose := Law.loose) (d := HandSHeadRun.topDef (OpenLaw.row PySem.Challenge.rw_gluedlines_k26_rules_made_and_changed).prog 60) (kwd := []) Law.ob_eq
    (by kernel_rfl) (fun s => by kernel_rfl) Law.run (by kernel_rfl) (by kernel_rfl) (by kernel_rfl) (by rfl) (by first | assumption | decide +kernel) (by decide +kernel) ⟨rfl, rfl, rfl, rfl, rfl, by decide +kernel⟩ ?hw ?hc
  case hw => w_witness2
  case hc =>
    refine L2.walk_ofE (l := PySem.Challenge.rw_gluedlines_k26_rules_made_and_changed) (n := 63) (k := 17) (x := "_law_script") (CX := L2.CX0) rfl (by decide) (by kernel_rfl) ⟨rfl, by decide, by decide⟩ ?F (fun _ _ _ _ z => z)
    intro w mg fa h Y G hmg0
    obtain ⟨K, KX, c⟩ := Y
    have hmg : mg ("law" : PySem.Str) = some (.ref fa) := by
      have e : (HandSHeadRun.topDef (OpenLaw.row PySem.Challenge.rw_gluedlines_k26_rules_made_and_changed).prog 60).name = ("law" : PySem.Str) := by kernel_rfl
      rw [← e]
      exact hmg0
    obtain ⟨c, t, e0, e1, e2, e3, e4, e5, e6, e7, e8⟩ := Law.hk_says c
    exact Law.law_fn KX G hmg c t e0 e1 e2 e3 e4 e5 e6 e7 e8
#print axioms PySem.Challenge.cw_gluedlines_k26_rules_made_and_changed_holds
