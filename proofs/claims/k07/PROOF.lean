import PyProof.Rows.All
import Wide.All
import OpenK.AllK
import Wide.FinOn
import KE.KStateDown
import HandS.ForMost
import HandS.Exc
import HandS.WordsExc
import HandS.Defaults
import HandS.Conv
import HandS.Flow
import HandS.IsInst
import HandS.Codes
import HandS.Dict
import HandS.Star
import HandS.Iter
import HandS.Zip
import HandS.Text
import HandS.TupAny
import HandS.Style
import HandS.SortInts
import PyProof.Rows.TmSorted
import PyProof.Rows.SortStr
import KE.KeyNested
import PyProof.DictRoadsH
import PyProof.Rows.TupTab
import HandS.Head0
import HandS.Head1
import HandS.Head2
import HandS.HeadEnd
import HandS.HeadHook1
import HandS.HeadHook2
import KE.KOpsOwn
import KE.KExcSuper
import HandS.ExcInit
import HandS.ExcField
import KE.SortData
import HandS.DictTup
import PyProof.DictMoreH
import HandS.NoneIn
import HandS.SetFor
import HandS.Strs
import KE.DataCmp
import HandS.Replace
import HandS.ReplaceList
import KE.KDictSum
import KE.KDictCopyH
import KE.KCallOwn
import HandS.FStr
import HandS.ExcValue
import HandS.Deep
import HandS.ExcOwn
import KE.KExcIs
import HandS.Property
import HandS.MakeKwOnly
import HandS.ClsMeth
import HandS.SetBool
import HandS.TupSets
import HandS.CallSlots
import HandS.SuiteRaise
import HandS.RaiseFrom
import HandS.StrMore
import KE.GoesMore
import PySem.Challenge.RW_gluedlines_k07_whole_pattern_texts_spoil
set_option Elab.async false
set_option linter.all false
set_option maxRecDepth 100000
set_option maxHeartbeats 4000000
set_option synthInstance.maxSize 1000
set_option synthInstance.maxHeartbeats 400000
namespace Gl
open PySem PySem.Spec PyProof.Rows L2
/-! ## partial results -/
def gd {α : Type} (b : Bool) (x : Option α) : Option α := match b with
  | true => x
  | false => none
theorem gd_some {α : Type} {b : Bool} {x : Option α} {r : α} (h : gd b x = some r) : b = true ∧ x = some r := by
  cases b with
  | true => exact ⟨rfl, h⟩
  | false => cases h
theorem gd_true {α : Type} {b : Bool} {x : Option α} (h : b = true) : gd b x = x := by rw [h]; rfl
theorem bd_some {α β : Type} {x : Option α} {k : α → Option β} {r : β} (h : x.bind k = some r) : ∃ a, x = some a ∧ k a = some r := by
  cases x with
  | none => cases h
  | some a => exact ⟨a, rfl, h⟩
/-- how a block ends: it goes on, it breaks off its loop, or it returns -/
inductive Ctl (S R : Type) where
  | nx (s : S) | bk (s : S) | rt (r : R)

/-! ## values that stand for Lean's -/
theorem pGet {α β : Type} {R : α → β → Prop} : ∀ {xs : List α} {ys : List β} {i : Nat} {y : β}, Paired R xs ys → ys[i]? = some y → ∃ x, xs[i]? = some x ∧ R x y
  | _, _, _, _, .nil, e => by simp at e
  | _, _, 0, _, .cons r _, e => by simp at e; subst e; exact ⟨_, rfl, r⟩
  | _, _, i + 1, y, .cons _ t, e => by
    obtain ⟨x, h1, h2⟩ := pGet (i := i) (y := y) t (by simpa using e)
    exact ⟨x, by simpa using h1, h2⟩
theorem pGetL {α β : Type} {R : α → β → Prop} : ∀ {xs : List α} {ys : List β} {i : Nat} {x : α}, Paired R xs ys → xs[i]? = some x → ∃ y, ys[i]? = some y ∧ R x y
  | _, _, _, _, .nil, e => by simp at e
  | _, _, 0, _, .cons r _, e => by simp at e; subst e; exact ⟨_, rfl, r⟩
  | _, _, i + 1, y, .cons _ t, e => by
    obtain ⟨x, h1, h2⟩ := pGetL (i := i) (x := y) t (by simpa using e)
    exact ⟨x, by simpa using h1, h2⟩
theorem pApp {α β : Type} {R : α → β → Prop} : ∀ {xs xs' : List α} {ys ys' : List β}, Paired R xs ys → Paired R xs' ys' → Paired R (xs ++ xs') (ys ++ ys')
  | _, _, _, _, .nil, s => s
  | _, _, _, _, .cons r t, s => .cons r (pApp t s)
theorem pDrop {α β : Type} {R : α → β → Prop} : ∀ {xs : List α} {ys : List β} (n : Nat), Paired R xs ys → Paired R (xs.drop n) (ys.drop n)
  | _, _, 0, r => r
  | _, _, _ + 1, .nil => .nil
  | _, _, n + 1, .cons _ t => pDrop n t
theorem pTake {α β : Type} {R : α → β → Prop} : ∀ {xs : List α} {ys : List β} (n : Nat), Paired R xs ys → Paired R (xs.take n) (ys.take n)
  | _, _, 0, _ => .nil
  | _, _, _ + 1, .nil => .nil
  | _, _, n + 1, .cons r t => .cons r (pTake n t)
theorem pLen {α β : Type} {R : α → β → Prop} {xs : List α} {ys : List β} (h : Paired R xs ys) : xs.length = ys.length := h.length
/-- how values stand for Lean's, in what stands for good -/
structure R (α : Type) where
  r : PySem.W.Frag → Hp → V → α → Prop
  mono : ∀ {K : PySem.W.Frag} {F F' : Hp} {v : V} {a : α}, Same F F' → r K F v a → r K F' v a
def qI : R Int := ⟨fun _ _ v i => v = .int i, fun _ h => h⟩
def qB : R Bool := ⟨fun _ _ v i => v = .bl i, fun _ h => h⟩
def qS : R Str := ⟨fun _ _ v i => v = .str i, fun _ h => h⟩
def qO {α : Type} (A : R α) : R (Option α) := ⟨fun K F v i => match i with
  | none => v = .non
  | some a => A.r K F v a, fun {K F F' v a} e h => by
    cases a with
    | none => exact h
    | some a => exact A.mono e h⟩
/-- all of a row -/
abbrev Row {α : Type} (A : R α) (K : PySem.W.Frag) (F : Hp) (vs : List V) (xs : List α) : Prop := Paired (fun v x => A.r K F v x) vs xs
theorem Row.mono {α : Type} {A : R α} {K : PySem.W.Frag} {F F' : Hp} {vs : List V} {xs : List α} (e : Same F F') (h : Row A K F vs xs) : Row A K F' vs xs := Paired.mapP h fun _ _ r => A.mono e r
theorem same_t {K : PySem.W.Frag} {H H' : Hp} {a : Addr} {xs : List V} (e : Same H H') (h : SqT K H a xs) : SqT K H' a xs := by
  rcases h with (h | ⟨o, h⟩) | h
  · exact .inl (.inl (e _ _ h))
  · exact .inl (.inr ⟨o, e _ _ h⟩)
  · exact .inr h
/-- a list, a tuple, one of both -/
def qL {α : Type} (A : R α) : R (List α) := ⟨fun K F v xs => ∃ p vs, v = .ref p ∧ F p = some (.lst vs) ∧ Row A K F vs xs, fun e ⟨p, vs, h1, h2, h3⟩ => ⟨p, vs, h1, e _ _ h2, Row.mono e h3⟩⟩
def qT {α : Type} (A : R α) : R (List α) := ⟨fun K F v xs => ∃ p vs, v = .ref p ∧ SqT K F p vs ∧ Row A K F vs xs, fun e ⟨p, vs, h1, h2, h3⟩ => ⟨p, vs, h1, same_t e h2, Row.mono e h3⟩⟩
def qQ {α : Type} (A : R α) : R (List α) := ⟨fun K F v xs => (qL A).r K F v xs ∨ (qT A).r K F v xs, fun e h => h.elim (fun h => .inl ((qL A).mono e h)) fun h => .inr ((qT A).mono e h)⟩
/-- tuples of two, of three -/
def q2 {α β : Type} (A : R α) (B : R β) : R (α × β) := ⟨fun K F v x => ∃ p u w, v = .ref p ∧ SqT K F p [u, w] ∧ A.r K F u x.1 ∧ B.r K F w x.2, fun e ⟨p, u, w, h1, h2, h3, h4⟩ => ⟨p, u, w, h1, same_t e h2, A.mono e h3, B.mono e h4⟩⟩
def q3 {α β γ : Type} (A : R α) (B : R β) (C : R γ) : R (α × β × γ) := ⟨fun K F v x => ∃ p u w z, v = .ref p ∧ SqT K F p [u, w, z] ∧ A.r K F u x.1 ∧ B.r K F w x.2.1 ∧ C.r K F z x.2.2, fun e ⟨p, u, w, z, h1, h2, h3, h4, h5⟩ => ⟨p, u, w, z, h1, same_t e h2, A.mono e h3, B.mono e h4, C.mono e h5⟩⟩

/-! ## frozen and owned -/
/-- F: what stands for good within H; F0, H0: at the def's entry; P: what the def may change of it -/
structure Sx (P : Addr → Prop) (F0 H0 F H : Hp) : Prop where
  le : Same F0 F
  sub : Same F H
  new : ∀ a o, F a = some o → F0 a = none → H0 a = none ∨ P a
  same : ∀ a o, H0 a = some o → ¬ P a → H a = some o
  live : ∀ a, P a → H a ≠ none
/-- an object of the def's own: it may change it -/
structure Ow (P : Addr → Prop) (H0 F H : Hp) (p : Addr) (o : HO) : Prop where
  fr : F p = none
  at_ : H p = some o
  mine : H0 p = none ∨ P p
abbrev P0 : Addr → Prop := fun _ => False
section
variable {P P' : Addr → Prop} {F0 H0 F H F' H' : Hp} {p q : Addr} {o u : HO}
theorem Sx.refl (h : Same F H) (l : ∀ a, P a → H a ≠ none) : Sx P F H F H := ⟨Same.refl F, h, fun a o e n => absurd (n.symm.trans e) (fun z => nomatch z), fun _ _ e _ => e, l⟩
theorem Sx.refl0 (h : Same F H) : Sx P0 F H F H := Sx.refl h fun _ z => z.elim
theorem Sx.free (S : Sx P F0 H0 F H) (h : H q = none) : F q = none := S.sub.free h
theorem Sx.free0 (S : Sx P F0 H0 F H) (h : H q = none) : H0 q = none := by
  cases e : H0 q with
  | none => rfl
  | some o =>
    have np : ¬ P q := fun z => S.live q z h
    have := S.same q o e np
    rw [h] at this
    cases this
theorem Sx.leN (S : Sx P F0 H0 F H) (h : H q = none) : Same F (upd F q o) := fun a u e => by
  rw [upd_ne (ne_of_none e (S.free h))]
  exact e
/-- a new object that is not kept -/
theorem Sx.temp (S : Sx P F0 H0 F H) (h : H q = none) : Sx P F0 H0 F (upd H q o) := by
  refine ⟨S.le, fun a u e => ?_, S.new, fun a u e n => ?_, fun a z => ?_⟩
  · rw [upd_ne (ne_of_none (S.sub a u e) h)]; exact S.sub a u e
  · rw [upd_ne (ne_of_none (S.same a u e n) h)]; exact S.same a u e n
  · have l := S.live a z
    have ne : a ≠ q := fun e => l (by rw [e]; exact h)
    rw [upd_ne ne]; exact l
/-- a new object that stands for good -/
theorem Sx.alloc (S : Sx P F0 H0 F H) (h : H q = none) : Sx P F0 H0 (upd F q o) (upd H q o) := by
  refine ⟨S.le.trans (S.leN h), fun a u e => ?_, fun a u e n => ?_, (S.temp h).same, (S.temp h).live⟩
  · by_cases z : a = q
    · subst z; rw [upd_same] at e ⊢; exact e
    · rw [upd_ne z] at e ⊢; exact S.sub a u e
  · by_cases z : a = q
    · subst z; exact .inl (S.free0 h)
    · rw [upd_ne z] at e; exact S.new a u e n
/-- an object of one's own is changed -/
theorem Sx.put (S : Sx P F0 H0 F H) (w : Ow P H0 F H p o) : Sx P F0 H0 F (upd H p u) := by
  refine ⟨S.le, fun a v e => ?_, S.new, fun a v e n => ?_, fun a z => ?_⟩
  · have ne : a ≠ p := fun z => by rw [z, w.fr] at e; cases e
    rw [upd_ne ne]; exact S.sub a v e
  · have ne : a ≠ p := fun z => by
      rcases w.mine with m | m
      · rw [z, m] at e; cases e
      · exact n (z ▸ m)
    rw [upd_ne ne]; exact S.same a v e n
  · by_cases e : a = p
    · subst e; rw [upd_same]; exact fun h => nomatch h
    · rw [upd_ne e]; exact S.live a z
/-- .. is let stand for good -/
theorem Sx.freezeP (S : Sx P F0 H0 F H) (w : Ow P H0 F H p o) : Sx P F0 H0 (upd F p o) H := by
  refine ⟨S.le.trans fun a u e => ?_, fun a u e => ?_, fun a u e n => ?_, S.same, S.live⟩
  · rw [upd_ne (ne_of_none e w.fr)]; exact e
  · by_cases z : a = p
    · subst z; rw [upd_same] at e; cases e; exact w.at_
    · rw [upd_ne z] at e; exact S.sub a u e
  · by_cases z : a = p
    · subst z; exact w.mine
    · rw [upd_ne z] at e; exact S.new a u e n
theorem Sx.freeze (S : Sx P F0 H0 F H) (w : Ow P H0 F H p o) (_ : H0 p = none) : Sx P F0 H0 (upd F p o) H := S.freezeP w
theorem Ow.leF (w : Ow P H0 F H p o) : Same F (upd F p o) := fun a u e => by rw [upd_ne (ne_of_none e w.fr)]; exact e
/-- behind a call that may change P' -/
theorem Sx.call (S : Sx P F0 H0 F H) (c : Sx P' F H F' H') (h : ∀ a, P' a → P a ∨ H0 a = none) : Sx P F0 H0 F' H' := by
  refine ⟨S.le.trans c.le, c.sub, fun a u e n => ?_, fun a u e n => ?_, fun a z => ?_⟩
  · cases q : F a with
    | some o => exact S.new a o q n
    | none => exact (c.new a u e q).elim (fun z => .inl (S.free0 z)) fun z => (h a z).symm
  · refine c.same a u (S.same a u e n) fun z => ?_
    rcases h a z with z | z
    · exact n z
    · rw [z] at e; cases e
  · by_cases y : P' a
    · exact c.live a y
    · have l := S.live a z
      cases e : H a with
      | none => exact absurd e l
      | some o =>
        rw [c.same a o e y]
        exact fun h => nomatch h
theorem Sx.call0 (S : Sx P F0 H0 F H) (c : Sx P0 F H F' H') : Sx P F0 H0 F' H' := S.call c fun _ z => z.elim
theorem Sx.call1 (S : Sx P F0 H0 F H) (c : Sx (fun a => a = p) F H F' H') (w : Ow P H0 F H p o) : Sx P F0 H0 F' H' := S.call c fun a z => by
  subst z
  exact w.mine.symm
theorem Ow.call (w : Ow P H0 F H p o) (c : Sx P' F H F' H') (n : ¬ P' p) : Ow P H0 F' H' p o := by
  refine ⟨?_, c.same p o w.at_ n, w.mine⟩
  cases q : F' p with
  | none => rfl
  | some u =>
    rcases c.new p u q w.fr with z | z
    · rw [w.at_] at z
      cases z
    · exact absurd z n
theorem Ow.call0 (w : Ow P H0 F H p o) (c : Sx P0 F H F' H') : Ow P H0 F' H' p o := w.call c fun z => z
theorem Ow.ne (w : Ow P H0 F H p o) (h : H q = none) : p ≠ q := ne_of_none w.at_ h
theorem Ow.temp (w : Ow P H0 F H p o) (h : H q = none) : Ow P H0 F (upd H q u) p o := ⟨w.fr, by rw [upd_ne (w.ne h)]; exact w.at_, w.mine⟩
theorem Ow.alloc (w : Ow P H0 F H p o) (h : H q = none) : Ow P H0 (upd F q u) (upd H q u) p o := ⟨by rw [upd_ne (w.ne h)]; exact w.fr, by rw [upd_ne (w.ne h)]; exact w.at_, w.mine⟩
theorem Ow.put (w : Ow P H0 F H p o) : Ow P H0 F (upd H p u) p u := ⟨w.fr, upd_same, w.mine⟩
theorem Ow.putO {o' : HO} (w : Ow P H0 F H p o) (n : p ≠ q) : Ow P H0 F (upd H q o') p o := ⟨w.fr, by rw [upd_ne n]; exact w.at_, w.mine⟩
/-- a new object of one's own -/
theorem Sx.own (S : Sx P F0 H0 F H) (h : H q = none) : Ow P H0 F (upd H q o) q o := ⟨S.free h, upd_same, .inl (S.free0 h)⟩
/-- inside a callee's eyes: an own object handed in -/
theorem Ow.arg (w : Ow P H0 F H p o) : Ow (fun a => a = p) H F H p o := ⟨w.fr, w.at_, .inr rfl⟩
theorem Ow.back {o' : HO} (w : Ow P H0 F H p o) (z : Ow (fun a => a = p) H F' H' p o') : Ow P H0 F' H' p o' := ⟨z.fr, z.at_, w.mine⟩
end
end Gl
namespace Gl
open PySem PySem.Spec PyProof.Rows L2
/-! ## tests -/
theorem if_b {β : Type} {b : Bool} {A B : Prop} {m1 m2 : Option β} {r : β} (hm : (if b = true then m1 else m2) = some r) (h1 : b = true → m1 = some r → A) (h2 : b = false → m2 = some r → B) : if b = true then A else B := by
  cases b with
  | true => exact h1 rfl hm
  | false => exact h2 rfl hm
theorem if_j {b : Bool} {A B : Prop} (h1 : b = true → A) (h2 : b = false → B) : if b = true then A else B := by
  cases b with
  | true => exact h1 rfl
  | false => exact h2 rfl
/-- and, or: the right side is looked at alone, with whatever is wanted of it; what is known behind both is told once -/
theorem and_j {b : Bool} {u : (Bool → Hp → Prop) → Prop} {Q : Bool → Hp → Prop} {H : Hp} (J : Bool → Hp → Prop) (h1 : b = true → ∀ Q' : Bool → Hp → Prop, (∀ c H', J c H' → Q' c H') → u Q') (h2 : b = false → J false H) (k : ∀ c H', J c H' → Q c H') : if b = true then u Q else Q false H := by
  cases b with
  | true => exact h1 rfl Q k
  | false => exact k _ _ (h2 rfl)
theorem or_j {b : Bool} {u : (Bool → Hp → Prop) → Prop} {Q : Bool → Hp → Prop} {H : Hp} (J : Bool → Hp → Prop) (h1 : b = false → ∀ Q' : Bool → Hp → Prop, (∀ c H', J c H' → Q' c H') → u Q') (h2 : b = true → J true H) (k : ∀ c H', J c H' → Q c H') : if b = true then Q true H else u Q := by
  cases b with
  | true => exact k _ _ (h2 rfl)
  | false => exact h1 rfl Q k
theorem andV_j {b : Bool} {u : VK → Prop} {Q : VK} {H : Hp} (J : V → Hp → Prop) (h1 : b = true → ∀ Q' : VK, (∀ c H', J c H' → Q' c H') → u Q') (h2 : b = false → J (.bl false) H) (k : ∀ c H', J c H' → Q c H') : if b = true then u Q else Q (.bl false) H := by
  cases b with
  | true => exact h1 rfl Q k
  | false => exact k _ _ (h2 rfl)
/-- .. where the right side leaves the heap as it is -/
theorem and_p {b c : Bool} {u : (Bool → Hp → Prop) → Prop} {Q : Bool → Hp → Prop} {H : Hp} (hu : b = true → ∀ Q' : Bool → Hp → Prop, Q' c H → u Q') (k : Q (b && c) H) : if b = true then u Q else Q false H := by
  cases b with
  | true => exact hu rfl Q k
  | false => exact k
theorem or_p {b c : Bool} {u : (Bool → Hp → Prop) → Prop} {Q : Bool → Hp → Prop} {H : Hp} (hu : b = false → ∀ Q' : Bool → Hp → Prop, Q' c H → u Q') (k : Q (b || c) H) : if b = true then Q true H else u Q := by
  cases b with
  | true => exact k
  | false => exact hu rfl Q k
theorem andV_p {b c : Bool} {u : VK → Prop} {Q : VK} {H : Hp} (hu : b = true → ∀ Q' : VK, Q' (.bl c) H → u Q') (k : Q (.bl (b && c)) H) : if b = true then u Q else Q (.bl false) H := by
  cases b with
  | true => exact hu rfl Q k
  | false => exact k
/-! ## operators on plain values -/
section
variable {X : Cx}
theorem op_eqI : OpR X (compareOp .Eq) (rI0 fun i j => .bl (decide (i = j))) := opB0 fun _ _ _ _ _ _ _ h => eq_int (by rw [Bool.beq_eq_decide_eq]; exact h)
def rS0 (g : Str → Str → V) : R2 := fun x y H Q => ∃ i j, x = .str i ∧ y = .str j ∧ Q (g i j) H
theorem dec_strV {i j : Str} : decide (V.str i = V.str j) = decide (i = j) := by
  by_cases e : i = j
  · subst e; simp
  · rw [decide_eq_false e, decide_eq_false fun z => e (V.str.inj z)]
theorem op_eqS : OpR X (compareOp .Eq) (rS0 fun i j => .bl (decide (i = j))) := by
  intro pins s σ H x y v u Q I rx ry h
  obtain ⟨i, j, rfl, rfl, q⟩ := h
  exact op_eq pins s σ H _ _ v u Q I rx ry ⟨rfl, by rw [dec_strV]; exact q⟩
theorem op_neS : OpR X (compareOp .NotEq) (rS0 fun i j => .bl (!decide (i = j))) := by
  intro pins s σ H x y v u Q I rx ry h
  obtain ⟨i, j, rfl, rfl, q⟩ := h
  exact op_ne pins s σ H _ _ v u Q I rx ry ⟨rfl, by rw [dec_strV]; exact q⟩
end
/-- i stands in j -/
def inS (i j : Str) : Bool := !(Builtin.Str.occurrences j i 0 j.length 1).isEmpty
def mulOk (a b : Int) : Bool := (decide (-(2 ^ 64) < a) && decide (a < 2 ^ 64)) || (decide (-(2 ^ 64) < b) && decide (b < 2 ^ 64))
theorem mulOk_of {a b : Int} (h : mulOk a b = true) : CMul a b := by
  unfold mulOk at h
  simp only [Bool.or_eq_true, Bool.and_eq_true, decide_eq_true_eq] at h
  exact h
def divOk (b : Int) : Bool := decide (0 < b) && decide (b < 1073741824)
theorem divOk_of {a b : Int} (h : divOk b = true) : CDiv a b := by
  unfold divOk at h
  simp only [Bool.and_eq_true, decide_eq_true_eq] at h
  exact h
def modOk (b : Int) : Bool := decide (0 < b)
theorem modOk_of {b : Int} (h : modOk b = true) : 0 < b := of_decide_eq_true h
def powOk (a b : Int) : Bool := decide (0 ≤ b) && (decide (b ≤ 1000000) && decide (a.natAbs < 2 ^ 64))
theorem powOk_of {a b : Int} (h : powOk a b = true) : CPow a b := by
  unfold powOk at h
  simp only [Bool.and_eq_true, decide_eq_true_eq] at h
  exact h
def catOk (a b : Str) : Bool := decide (a.length + b.length ≤ sizeLine)
theorem catOk_of {a b : Str} (h : catOk a b = true) : a.length + b.length ≤ sizeLine := of_decide_eq_true h
def fits {α : Type} (a : List α) : Bool := decide (a.length < sizeLine)
def fitsS (a : Str) : Bool := decide (a.length ≤ sizeLine)
theorem fitsS_of {a : Str} (h : fitsS a = true) : a.length ≤ sizeLine := of_decide_eq_true h
def fits2 {α : Type} (a b : List α) : Bool := decide (a.length + b.length ≤ sizeLine)
def ixS (s : Str) (i : Int) : Option Str := gd (fitsS s) ((atI s.cps.toList i).bind fun c => some ⟨#[c]⟩)
theorem ixS_some {s z : Str} {i : Int} (h : ixS s i = some z) : ∃ c, s.length ≤ sizeLine ∧ atI s.cps.toList i = some c ∧ z = ⟨#[c]⟩ := by
  obtain ⟨h1, h2⟩ := gd_some h
  obtain ⟨c, h3, h4⟩ := bd_some h2
  exact ⟨c, fitsS_of h1, h3, (Option.some.inj h4).symm⟩
/-- xs[lo:hi] -/
def cut {α : Type} (xs : List α) (lo hi : Option Int) : List α := (xs.drop (HT.sIx xs.length 0 lo)).take (HT.sIx xs.length xs.length hi - HT.sIx xs.length 0 lo)
def rng (a b : Int) : List Int := (List.range (b - a).toNat).map fun i => a + (i : Nat)
def maxI (i j : Int) : Int := if j > i then j else i
def minI (i j : Int) : Int := if j < i then j else i
def b2I (b : Bool) : Int := if b then 1 else 0
/-- the sgns of a text, one by one -/
def sgns (z : Str) : List Str := z.cps.toList.map fun c => ⟨#[c]⟩

/-! ## what is seen of rows -/
section
variable {α : Type} {A : R α} {K : PySem.W.Frag} {F H F0 H0 : Hp} {P : Addr → Prop} {v : V} {xs ys : List α} {Q : VK} {i : Int} {a : α} {p : Addr} {vs : List V}
def SeenL (A : R α) (K : PySem.W.Frag) (F H : Hp) (v : V) (xs : List α) : Prop := ∃ p vs, v = .ref p ∧ H p = some (.lst vs) ∧ Row A K F vs xs
def SeenR (A : R α) (K : PySem.W.Frag) (F H : Hp) (v : V) (xs : List α) : Prop := ∃ p vs, v = .ref p ∧ SqL K H p vs ∧ Row A K F vs xs
def SeenT (A : R α) (K : PySem.W.Frag) (F H : Hp) (v : V) (xs : List α) : Prop := ∃ p vs, v = .ref p ∧ SqT K H p vs ∧ Row A K F vs xs
def SeenQ (A : R α) (K : PySem.W.Frag) (F H : Hp) (v : V) (xs : List α) : Prop := SeenR A K F H v xs ∨ SeenT A K F H v xs
theorem SeenL.r (h : SeenL A K F H v xs) : SeenR A K F H v xs := let ⟨p, vs, h1, h2, h3⟩ := h; ⟨p, vs, h1, SqL.of h2, h3⟩
theorem Sx.l (S : Sx P F0 H0 F H) (r : (qL A).r K F v xs) : SeenL A K F H v xs := let ⟨p, vs, h1, h2, h3⟩ := r; ⟨p, vs, h1, S.sub _ _ h2, h3⟩
theorem Sx.t (S : Sx P F0 H0 F H) (r : (qT A).r K F v xs) : SeenT A K F H v xs := let ⟨p, vs, h1, h2, h3⟩ := r; ⟨p, vs, h1, same_t S.sub h2, h3⟩
theorem Sx.q (S : Sx P F0 H0 F H) (r : (qQ A).r K F v xs) : SeenQ A K F H v xs := r.elim (fun r => .inl (S.l r).r) fun r => .inr (S.t r)
theorem Ow.l (w : Ow P H0 F H p (.lst vs)) (r : Row A K F vs xs) : SeenL A K F H (.ref p) xs := ⟨p, vs, rfl, w.at_, r⟩
theorem SeenL.q (h : SeenL A K F H v xs) : SeenQ A K F H v xs := .inl h.r
theorem SeenR.q (h : SeenR A K F H v xs) : SeenQ A K F H v xs := .inl h
theorem SeenT.q (h : SeenT A K F H v xs) : SeenQ A K F H v xs := .inr h
theorem SeenQ.seq (h : SeenQ A K F H v xs) : ∃ p vs, v = .ref p ∧ (SqL K H p vs ∨ SqT K H p vs) ∧ Row A K F vs xs := by
  rcases h with ⟨p, vs, rfl, h, r⟩ | ⟨p, vs, rfl, h, r⟩
  · exact ⟨p, vs, rfl, .inl h, r⟩
  · exact ⟨p, vs, rfl, .inr h, r⟩
/-- the script -/
def qC : R (List Int) := ⟨fun K F v xs => ∃ p, v = .ref p ∧ SqL K F p (xs.map V.int), fun e ⟨p, h1, h2⟩ => ⟨p, h1, Same.seq e h2⟩⟩
theorem row_ints {K : PySem.W.Frag} {F : Hp} : ∀ xs : List Int, Row qI K F (xs.map V.int) xs
  | [] => .nil
  | _ :: xs => .cons rfl (row_ints xs)
theorem Sx.c {xs : List Int} (S : Sx P F0 H0 F H) (r : qC.r K F v xs) : SeenR qI K F H v xs := let ⟨p, h1, h2⟩ := r; ⟨p, _, h1, Same.seq S.sub h2, row_ints xs⟩
theorem row_at (r : Row A K F vs xs) (h : atI xs i = some a) : ∃ u, atI vs i = some u ∧ A.r K F u a := by
  unfold atI at h ⊢
  rw [pLen r]
  obtain ⟨j, h1, h2⟩ := bd_some h
  obtain ⟨u, h3, h4⟩ := pGet r h2
  exact ⟨u, by rw [h1]; exact h3, h4⟩
theorem row_cut (r : Row A K F vs xs) (lo hi : Option Int) : Row A K F (cutV vs lo hi) (cut xs lo hi) := by
  unfold cutV cut
  rw [pLen r]
  exact pTake _ (pDrop _ r)
theorem rd_ixL (s : SeenR A K F H v xs) (h : atI xs i = some a) (k : ∀ u, A.r K F u a → Q u H) : rIxL K v (.int i) H Q := by
  obtain ⟨p, vs, rfl, h1, r⟩ := s
  obtain ⟨u, h2, h3⟩ := row_at r h
  exact ⟨p, vs, i, u, rfl, rfl, h1, h2, k u h3⟩
theorem rd_ixT (s : SeenT A K F H v xs) (h : atI xs i = some a) (k : ∀ u, A.r K F u a → Q u H) : rIxT K v (.int i) H Q := by
  obtain ⟨p, vs, rfl, h1, r⟩ := s
  obtain ⟨u, h2, h3⟩ := row_at r h
  exact ⟨p, vs, i, u, rfl, rfl, h1, h2, k u h3⟩
theorem rd_len (s : SeenQ A K F H v xs) (k : Q (.int (xs.length : Int)) H) : ∃ p ys, [v] = [V.ref p] ∧ (SqL K H p ys ∨ SqT K H p ys) ∧ Q (.int (ys.length : Int)) H := by
  obtain ⟨p, vs, rfl, h1, r⟩ := s.seq
  exact ⟨p, vs, rfl, h1, by rw [pLen r]; exact k⟩
/-- what is wanted of a new object; of a new list, tuple with such items -/
def nK (Q : VK) (H : Hp) (o : HO) : Prop := ∀ p, H p = none → Q (.ref p) (upd H p o)
def nL (A : R α) (K : PySem.W.Frag) (F : Hp) (Q : VK) (H : Hp) (xs : List α) : Prop := ∀ p us, H p = none → Row A K F us xs → Q (.ref p) (upd H p (.lst us))
def nT (A : R α) (K : PySem.W.Frag) (F : Hp) (Q : VK) (H : Hp) (xs : List α) : Prop := ∀ p us, H p = none → Row A K F us xs → Q (.ref p) (upd H p (.tup us))
theorem rd_slL {lo hi : Option Int} (s : SeenR A K F H v xs) (k : nL A K F Q H (cut xs lo hi)) : rSlL K v lo hi H Q := by
  obtain ⟨p, vs, rfl, h1, r⟩ := s
  exact ⟨p, vs, rfl, h1, fun q hq => k q _ hq (row_cut r lo hi)⟩
theorem rd_cat (s : SeenL A K F H v xs) {w : V} (t : SeenL A K F H w ys) (h : fits2 xs ys = true) (k : nL A K F Q H (xs ++ ys)) : rCat v w H Q := by
  obtain ⟨p, vs, rfl, h1, r⟩ := s
  obtain ⟨q, us, rfl, h2, r2⟩ := t
  exact ⟨p, q, vs, us, rfl, rfl, h1, h2, by rw [pLen r, pLen r2]; exact of_decide_eq_true h, fun z hz => k z _ hz (pApp r r2)⟩
theorem rd_app (w : Ow P H0 F H p (.lst vs)) (r : Row A K F vs xs) {y : V} (h : fits xs = true) (k : Q .non (upd H p (.lst (vs ++ [y])))) : rAppend (.ref p) [y] H Q :=
  ⟨p, vs, y, rfl, rfl, w.at_, by rw [pLen r]; exact of_decide_eq_true h, k⟩
theorem rd_extend (w : Ow P H0 F H p (.lst vs)) (r : Row A K F vs xs) {b : V} {ys : List α} (s : SeenL A K F H b ys) (h : fits2 xs ys = true) (k : ∀ us, Row A K F us ys → Q .non (upd H p (.lst (vs ++ us)))) : rExtend (.ref p) [b] H Q := by
  obtain ⟨q, us, rfl, h2, r2⟩ := s
  exact ⟨p, q, vs, us, rfl, rfl, w.at_, h2, by rw [pLen r, pLen r2]; exact of_decide_eq_true h, k us r2⟩
theorem Ow.ty (w : Ow P H0 F H p (.lst vs)) : tyV K "list" (.ref p) H := .inl ⟨rfl, vs, SqL.of w.at_⟩
end
/-! ### in -/
theorem inV_str {K : PySem.W.Frag} {F : Hp} {a : Str} : ∀ {vs : List V} {xs : List Str}, Row qS K F vs xs → inV (.str a) vs = decide (a ∈ xs) ∧ vs.all flatV = true
  | _, _, .nil => ⟨rfl, rfl⟩
  | v :: vs, x :: xs, .cons r t => by
    obtain ⟨h1, h2⟩ := inV_str (a := a) t
    cases (show v = .str x from r)
    refine ⟨?_, ?_⟩
    · show (eqV (.str x) (.str a) || inV (.str a) vs) = _
      rw [h1]
      show ((x == a) || decide (a ∈ xs)) = decide (a ∈ x :: xs)
      by_cases e : a = x
      · subst e; simp
      · have e2 : (x == a) = false := beq_eq_false_iff_ne.mpr (Ne.symm e)
        rw [e2]; simp [e]
    · show (flatV (.str x) && vs.all flatV) = true
      rw [h2]; rfl
section
variable {K : PySem.W.Frag} {F H : Hp} {v : V} {Q : VK}
theorem rd_inS {xs : List Str} {a : Str} (s : SeenQ qS K F H v xs) (k : Q (.bl (decide (a ∈ xs))) H) : rIn K false (.str a) v H Q := by
  obtain ⟨p, vs, rfl, h1, r⟩ := s.seq
  obtain ⟨e1, e2⟩ := inV_str (a := a) r
  exact ⟨p, vs, rfl, h1, rfl, e2, by show Q (.bl (inV (.str a) vs)) H; rw [e1]; exact k⟩
theorem rd_niS {xs : List Str} {a : Str} (s : SeenQ qS K F H v xs) (k : Q (.bl (!decide (a ∈ xs))) H) : rIn K true (.str a) v H Q := by
  obtain ⟨p, vs, rfl, h1, r⟩ := s.seq
  obtain ⟨e1, e2⟩ := inV_str (a := a) r
  exact ⟨p, vs, rfl, h1, rfl, e2, by show Q (.bl (!inV (.str a) vs)) H; rw [e1]; exact k⟩
end
/-! ### == of data -/
/-- what stands for Lean's in the library's data -/
structure Dat {α : Type} (A : R α) where
  d : α → PyData
  dp : ∀ {K : PySem.W.Frag} {F : Hp} {v : V} {a : α}, A.r K F v a → Dp K F v (d a)
  eq : ∀ a b : α, PyData.eqv (d a) (d b) = true ↔ a = b
mutual
theorem Dp.mono {K : PySem.W.Frag} {F F' : Hp} (e : Same F F') : ∀ {v : V} {d : PyData}, Dp K F v d → Dp K F' v d
  | _, _, .non => .non
  | _, _, .bl b => .bl b
  | _, _, .int i => .int i
  | _, _, .str x => .str x
  | _, _, .lst h a => .lst (Same.seq e h) (DpAll.mono e a)
  | _, _, .tup h a => .tup (same_t e h) (DpAll.mono e a)
theorem DpAll.mono {K : PySem.W.Frag} {F F' : Hp} (e : Same F F') : ∀ {vs : List V} {ds : List PyData}, DpAll K F vs ds → DpAll K F' vs ds
  | _, _, .nil => .nil
  | _, _, .cons h a => .cons (Dp.mono e h) (DpAll.mono e a)
end
def dI : Dat qI := ⟨.int, fun {K F v a} h => by cases (show v = .int a from h); exact .int a, fun a b => by simp [PyData.eqv]⟩
def dB : Dat qB := ⟨.bool, fun {K F v a} h => by cases (show v = .bl a from h); exact .bl a, fun a b => by simp [PyData.eqv]⟩
def dS : Dat qS := ⟨.str, fun {K F v a} h => by cases (show v = .str a from h); exact .str a, fun a b => by simp [PyData.eqv]⟩
theorem dpAll {α : Type} {A : R α} (D : Dat A) {K : PySem.W.Frag} {F : Hp} : ∀ {vs : List V} {xs : List α}, Row A K F vs xs → DpAll K F vs (xs.map D.d)
  | _, _, .nil => .nil
  | _, _, .cons r t => .cons (D.dp r) (dpAll D t)
theorem eqvAll_iff {α : Type} {A : R α} (D : Dat A) : ∀ xs ys : List α, PyData.eqvAll (xs.map D.d) (ys.map D.d) = true ↔ xs = ys
  | [], [] => by simp [PyData.eqvAll]
  | [], _ :: _ => by simp [PyData.eqvAll]
  | _ :: _, [] => by simp [PyData.eqvAll]
  | x :: xs, y :: ys => by
    show (PyData.eqv (D.d x) (D.d y) && PyData.eqvAll (xs.map D.d) (ys.map D.d)) = true ↔ _
    rw [Bool.and_eq_true, D.eq x y, eqvAll_iff D xs ys]
    simp
def dL {α : Type} {A : R α} (D : Dat A) : Dat (qL A) := ⟨fun xs => .list (xs.map D.d), fun {K F v a} h => by
    obtain ⟨p, vs, rfl, h2, h3⟩ := h
    exact .lst (SqL.of h2) (dpAll D h3), fun a b => eqvAll_iff D a b⟩
def dT {α : Type} {A : R α} (D : Dat A) : Dat (qT A) := ⟨fun xs => .tuple (xs.map D.d), fun {K F v a} h => by
    obtain ⟨p, vs, rfl, h2, h3⟩ := h
    exact .tup h2 (dpAll D h3), fun a b => eqvAll_iff D a b⟩
def d2 {α β : Type} {A : R α} {B : R β} (D : Dat A) (E : Dat B) : Dat (q2 A B) := ⟨fun x => .tuple [D.d x.1, E.d x.2], fun {K F v a} h => by
    obtain ⟨p, u, w, rfl, h2, h3, h4⟩ := h
    exact .tup h2 (.cons (D.dp h3) (.cons (E.dp h4) .nil)), fun a b => by
    show (PyData.eqv (D.d a.1) (D.d b.1) && (PyData.eqv (E.d a.2) (E.d b.2) && true)) = true ↔ _
    rw [Bool.and_eq_true, Bool.and_eq_true, D.eq, E.eq]
    obtain ⟨a1, a2⟩ := a
    obtain ⟨b1, b2⟩ := b
    simp⟩
def shp {α : Type} {A : R α} (D : Dat A) (a : α) : Bool := SeqAt.shaped (D.d a)
section
variable {α : Type} {A : R α} {K : PySem.W.Frag} {F H F0 H0 : Hp} {P : Addr → Prop} {v w : V} {a b : α} {Q : VK} [DecidableEq α]
theorem SeenR.dp {α : Type} {A : R α} {K : PySem.W.Frag} {F H : Hp} {v : V} {xs : List α} (S : Same F H) (D : Dat A) (h : SeenR A K F H v xs) : Dp K H v (.list (xs.map D.d)) := let ⟨p, vs, h1, h2, h3⟩ := h; by subst h1; exact .lst h2 (dpAll D (Row.mono S h3))
theorem eqv_dec (D : Dat A) (a b : α) : PyData.eqv (D.d a) (D.d b) = decide (a = b) := by
  by_cases e : a = b
  · rw [(D.eq a b).mpr e, decide_eq_true e]
  · rw [decide_eq_false e]
    cases h : PyData.eqv (D.d a) (D.d b) with
    | false => rfl
    | true => exact absurd ((D.eq a b).mp h) e
/-- what is seen of a datum -/
def SeenD (D : Dat A) (K : PySem.W.Frag) (H : Hp) (v : V) (a : α) : Prop := Dp K H v (D.d a)
theorem Sx.d (S : Sx P F0 H0 F H) (D : Dat A) (r : A.r K F v a) : SeenD D K H v a := Dp.mono S.sub (D.dp r)
theorem rd_neD {D : Dat A} (s : SeenD D K H v a) (t : SeenD D K H w b) (h1 : shp D a = true) (h2 : shp D b = true) (k : Q (.bl (!decide (a = b))) H) : rNeD K v w H Q :=
  ⟨_, _, s, t, h1, h2, by rw [eqv_dec]; exact k⟩
end
section
variable {α : Type} {A : R α} {K : PySem.W.Frag} {F H F0 H0 : Hp} {P : Addr → Prop} {p : Addr} {vs : List V} {xs : List α}
theorem Sx.cd {v : V} {xs : List Int} (S : Sx P F0 H0 F H) (r : qC.r K F v xs) : SeenD (dL dI) K H v xs := SeenR.dp S.sub dI (S.c r)
theorem Ow.d (w : Ow P H0 F H p (.lst vs)) (S : Sx P F0 H0 F H) (D : Dat A) (r : Row A K F vs xs) : SeenD (dL D) K H (.ref p) xs := .lst (SqL.of w.at_) (dpAll D (Row.mono S.sub r))
end
end Gl
namespace Gl
open PySem PySem.Spec PyProof.Rows L2
/-! ## loops -/
def loopS {α S : Type} (f : α → S → Option S) : List α → S → Option S
  | [], s => some s
  | x :: xs, s => (f x s).bind fun s' => loopS f xs s'
def loopC {α S ρ : Type} (f : α → S → Option (Ctl S ρ)) : List α → S → Option (Ctl S ρ)
  | [], s => some (.nx s)
  | x :: xs, s => (f x s).bind fun c => match c with
    | .nx s' => loopC f xs s'
    | .bk s' => some (.nx s')
    | .rt r => some (.rt r)
/-- behind a loop that may return -/
def aft {S ρ : Type} (c : Ctl S ρ) (k : S → Option ρ) : Option ρ := match c with
  | .nx s => k s
  | .bk s => k s
  | .rt r => some r
def fuel : Nat := 1000000000
def whileS {S : Type} (c : S → Option (Bool × S)) (f : S → Option S) : Nat → S → Option S
  | 0, _ => none
  | n + 1, s => (c s).bind fun b => if b.1 = true then (f b.2).bind fun s' => whileS c f n s' else some b.2
def whileC {S ρ : Type} (c : S → Option (Bool × S)) (f : S → Option (Ctl S ρ)) : Nat → S → Option (Ctl S ρ)
  | 0, _ => none
  | n + 1, s => (c s).bind fun b => if b.1 = true then (f b.2).bind fun c' => match c' with
    | .nx s' => whileC c f n s'
    | .bk s' => some (.nx s')
    | .rt r => some (.rt r) else some (.nx b.2)

/-- what an iterator hands out, one behind another -/
structure Feeds (J : It) (n : Nat) (G : Hp → Prop) (it : Nat → V → Prop) : Prop where
  go : ∀ i H, i < n → G H → J.go i H
  stop : ∀ H, G H → J.stop n H
  yld : ∀ i H x H', i < n → G H → J.yld i H x H' → H' = H ∧ it i x
theorem feedsL {K : PySem.W.Frag} {a : Addr} {vs : List V} : Feeds (Itl K a) vs.length (fun H => SqL K H a vs) (fun i x => vs[i]? = some x) :=
  ⟨fun i H h q => ⟨vs, vs[i], q, by simp [h]⟩, fun H q => ⟨vs, q, Nat.le_refl _⟩, fun i H x H' h q y => ⟨y.1, y.2 vs q⟩⟩
theorem feedsT {K : PySem.W.Frag} {a : Addr} {vs : List V} : Feeds (Itt K a) vs.length (fun H => SqT K H a vs) (fun i x => vs[i]? = some x) :=
  ⟨fun i H h q => ⟨vs, vs[i], q, by simp [h]⟩, fun H q => ⟨vs, q, Nat.le_refl _⟩, fun i H x H' h q y => ⟨y.1, y.2 vs q⟩⟩
theorem feedsS {z : Str} : Feeds (Its z) z.cps.size (fun _ => True) (fun i x => ∃ c, z.cps[i]? = some c ∧ x = .str ⟨#[c]⟩) :=
  ⟨fun i H h _ => h, fun H _ => Nat.le_refl _, fun i H x H' h _ y => y⟩
/-- the items are typed -/
structure Typed {α : Type} (A : R α) (K : PySem.W.Frag) (F : Hp) (n : Nat) (it : Nat → V → Prop) (xs : List α) : Prop where
  len : xs.length = n
  at_ : ∀ i x, it i x → ∃ a, xs[i]? = some a ∧ A.r K F x a
theorem typedRow {α : Type} {A : R α} {K : PySem.W.Frag} {F : Hp} {vs : List V} {xs : List α} (r : Row A K F vs xs) : Typed A K F vs.length (fun i x => vs[i]? = some x) xs :=
  ⟨(pLen r).symm, fun i x h => pGetL r h⟩
theorem typedR {K : PySem.W.Frag} {F : Hp} {a b : Int} : Typed qI K F (b - a).toNat (fun i x => i < (b - a).toNat ∧ x = .int (a + (i : Nat))) (rng a b) :=
  ⟨by unfold rng; simp, fun i x h => ⟨a + (i : Nat), by unfold rng; simp [h.1], h.2⟩⟩
theorem feedsRg {a b : Int} : Feeds (Itr a (b - a).toNat) (b - a).toNat (fun _ => True) (fun i x => i < (b - a).toNat ∧ x = .int (a + (i : Nat))) :=
  ⟨fun i H h _ => h, fun H _ => Nat.le_refl _, fun i H x H' h _ y => ⟨y.1, h, y.2⟩⟩
theorem typedS {K : PySem.W.Frag} {F : Hp} {z : Str} : Typed qS K F z.cps.size (fun i x => ∃ c, z.cps[i]? = some c ∧ x = .str ⟨#[c]⟩) (sgns z) :=
  ⟨by unfold sgns; simp, fun i x h => by
    obtain ⟨c, h1, h2⟩ := h
    exact ⟨⟨#[c]⟩, by unfold sgns; simp [h1], h2⟩⟩

abbrev ForG (J : It) (g : TG) (tb : TS) (D : Ends) (σ : L2.St) (H : Hp) : Prop :=
  ∃ W : Nat → Nat → L2.St → Hp → Prop, (∃ m, W 0 m σ H) ∧ ∀ i m σ H, W i m σ H →
    (J.stop i H ∧ D.nx σ H) ∨ (J.go i H ∧ ∃ N : L2.St → Hp → Prop, (∀ σ' H', N σ' H' → ∃ m', m' < m ∧ W (i + 1) m' σ' H') ∧ ∀ x H', J.yld i H x H' → g x σ H' fun σ2 H2 => tb { D with nx := N, ct := N, bk := D.nx } σ2 H2)
section
variable {J : It} {n : Nat} {G : Hp → Prop} {it : Nat → V → Prop} {α S ρ : Type} {A : R α} {K : PySem.W.Frag} {F : Hp} {xs : List α} {g : TG} {tb : TS} {σ : L2.St} {H : Hp} {Nx Bx Cx : L2.St → Hp → Prop} {Rx : VK}
theorem loopS_at {f : α → S → Option S} {i : Nat} {a : α} {s s1 : S} (h : loopS f (xs.drop i) s = some s1) (ha : xs[i]? = some a) : ∃ s', f a s = some s' ∧ loopS f (xs.drop (i + 1)) s' = some s1 := by
  have hi : i < xs.length := (List.getElem?_eq_some_iff.mp ha).1
  have e : xs.drop i = a :: xs.drop (i + 1) := by
    rw [List.drop_eq_getElem_cons hi]
    rw [(List.getElem?_eq_some_iff.mp ha).2]
  rw [e] at h
  exact bd_some h
theorem loopC_at {f : α → S → Option (Ctl S ρ)} {i : Nat} {a : α} {s : S} {c1 : Ctl S ρ} (h : loopC f (xs.drop i) s = some c1) (ha : xs[i]? = some a) : ∃ c, f a s = some c ∧ (match c with
    | .nx s' => loopC f (xs.drop (i + 1)) s'
    | .bk s' => some (.nx s')
    | .rt r => some (.rt r)) = some c1 := by
  have hi : i < xs.length := (List.getElem?_eq_some_iff.mp ha).1
  have e : xs.drop i = a :: xs.drop (i + 1) := by
    rw [List.drop_eq_getElem_cons hi]
    rw [(List.getElem?_eq_some_iff.mp ha).2]
  rw [e] at h
  exact bd_some h
/-- a loop that goes to its end -/
theorem rd_forS (Fd : Feeds J n G it) (Ty : Typed A K F n it xs) {f : α → S → Option S} {s0 s1 : S} (hm : loopS f xs s0 = some s1) (Iv : S → L2.St → Hp → Prop) (hG : ∀ s σ H, Iv s σ H → G H) (h0 : Iv s0 σ H)
    (turn : ∀ (a : α) (x : V) (s s' : S) (σ : L2.St) (H : Hp), A.r K F x a → Iv s σ H → f a s = some s' → g x σ H fun σ2 H2 => tb ⟨Iv s', Rx, Nx, Iv s'⟩ σ2 H2)
    (done : ∀ σ H, Iv s1 σ H → Nx σ H) : ForG J g tb ⟨Nx, Rx, Bx, Cx⟩ σ H := by
  refine ⟨fun i m σ H => m = n - i ∧ i ≤ n ∧ ∃ s, Iv s σ H ∧ loopS f (xs.drop i) s = some s1, ⟨n, by simp, Nat.zero_le _, s0, h0, hm⟩, ?_⟩
  rintro i m σ H ⟨rfl, hi, s, iv, hl⟩
  by_cases hlt : i < n
  · obtain ⟨a, ha⟩ : ∃ a, xs[i]? = some a := ⟨xs[i]'(by rw [Ty.len]; exact hlt), by simp [Ty.len, hlt]⟩
    obtain ⟨s', e1, e2⟩ := loopS_at hl ha
    refine .inr ⟨Fd.go i H hlt (hG s σ H iv), Iv s', fun σ' H' p' => ⟨n - (i + 1), by omega, rfl, hlt, s', p', e2⟩, fun x H' y => ?_⟩
    obtain ⟨rfl, hx⟩ := Fd.yld i H x H' hlt (hG s σ H iv) y
    obtain ⟨a', ha', r⟩ := Ty.at_ i x hx
    rw [ha] at ha'
    cases ha'
    exact turn a x s s' σ H' r iv e1
  · have e : i = n := by omega
    subst e
    rw [← Ty.len, List.drop_length] at hl
    cases hl
    exact .inl ⟨Fd.stop H (hG _ σ H iv), done σ H iv⟩
/-- a loop that may break off or return -/
theorem rd_forC (Fd : Feeds J n G it) (Ty : Typed A K F n it xs) {f : α → S → Option (Ctl S ρ)} {s0 : S} {c1 : Ctl S ρ} (hm : loopC f xs s0 = some c1) (Iv : S → L2.St → Hp → Prop) (hG : ∀ s σ H, Iv s σ H → G H) (h0 : Iv s0 σ H)
    (turn : ∀ (a : α) (x : V) (s : S) (c : Ctl S ρ) (σ : L2.St) (H : Hp), A.r K F x a → Iv s σ H → f a s = some c → (∀ s' σ' H', c = .bk s' → Iv s' σ' H' → Nx σ' H') → (∀ r, c = .rt r → c1 = .rt r) →
      g x σ H fun σ2 H2 => tb ⟨fun σ' H' => ∃ s', c = .nx s' ∧ Iv s' σ' H', Rx, Nx, fun σ' H' => ∃ s', c = .nx s' ∧ Iv s' σ' H'⟩ σ2 H2)
    (done : ∀ s σ H, c1 = .nx s → Iv s σ H → Nx σ H) : ForG J g tb ⟨Nx, Rx, Bx, Cx⟩ σ H := by
  refine ⟨fun i m σ H => m = n - i ∧ i ≤ n ∧ ∃ s, Iv s σ H ∧ loopC f (xs.drop i) s = some c1, ⟨n, by simp, Nat.zero_le _, s0, h0, hm⟩, ?_⟩
  rintro i m σ H ⟨rfl, hi, s, iv, hl⟩
  by_cases hlt : i < n
  · obtain ⟨a, ha⟩ : ∃ a, xs[i]? = some a := ⟨xs[i]'(by rw [Ty.len]; exact hlt), by simp [Ty.len, hlt]⟩
    obtain ⟨c, e1, e2⟩ := loopC_at hl ha
    refine .inr ⟨Fd.go i H hlt (hG s σ H iv), fun σ' H' => ∃ s', c = .nx s' ∧ Iv s' σ' H', fun σ' H' p' => ?_, fun x H' y => ?_⟩
    · obtain ⟨s', rfl, p'⟩ := p'
      exact ⟨n - (i + 1), by omega, rfl, hlt, s', p', e2⟩
    · obtain ⟨rfl, hx⟩ := Fd.yld i H x H' hlt (hG s σ H iv) y
      obtain ⟨a', ha', r⟩ := Ty.at_ i x hx
      rw [ha] at ha'
      cases ha'
      refine turn a x s c σ H' r iv e1 (fun s' σ' H' e p => ?_) fun r e => ?_
      · subst e
        exact done s' σ' H' (Option.some.inj e2).symm p
      · subst e
        exact (Option.some.inj e2).symm
  · have e : i = n := by omega
    subst e
    rw [← Ty.len, List.drop_length] at hl
    exact .inl ⟨Fd.stop H (hG _ σ H iv), done s σ H (Option.some.inj hl).symm iv⟩
end
section
variable {S ρ : Type} {c : TT} {tb : TS} {σ : L2.St} {H : Hp} {Nx Bx Cx : L2.St → Hp → Prop} {Rx : VK}
/-- while: the test may change the state; f: a turn -/
theorem rd_whileS {cm : S → Option (Bool × S)} {f : S → Option S} {N : Nat} {s0 s1 : S} (hm : whileS cm f N s0 = some s1) (Iv : S → L2.St → Hp → Prop) (h0 : Iv s0 σ H)
    (turn : ∀ (s : S) (b : Bool × S) (σ : L2.St) (H : Hp) (T : L2.St → Hp → Prop) (E : L2.St → Hp → Prop), Iv s σ H → cm s = some b → (∀ σ' H', b.1 = true → Iv b.2 σ' H' → T σ' H') → (∀ σ' H', b.1 = false → Iv b.2 σ' H' → E σ' H') → c σ H fun b H1 => if b = true then T σ H1 else E σ H1)
    (body : ∀ (s s' : S) (σ : L2.St) (H : Hp), Iv s σ H → f s = some s' → tb ⟨Iv s', Rx, Nx, Iv s'⟩ σ H)
    (done : ∀ σ H, Iv s1 σ H → Nx σ H) : tWhile c tb ⟨Nx, Rx, Bx, Cx⟩ σ H := by
  refine ⟨fun m σ H => ∃ s, Iv s σ H ∧ whileS cm f m s = some s1, ⟨N, s0, h0, hm⟩, ?_⟩
  rintro m σ H ⟨s, iv, h⟩
  cases m with
  | zero => cases h
  | succ m =>
    obtain ⟨b, e1, e2⟩ := bd_some h
    refine turn s b σ H (fun σ H1 => ∃ N : L2.St → Hp → Prop, (∀ σ' H', N σ' H' → ∃ m', m' < m + 1 ∧ ∃ s, Iv s σ' H' ∧ whileS cm f m' s = some s1) ∧ tb ⟨N, Rx, Nx, N⟩ σ H1) (fun σ H1 => Nx σ H1) iv e1 (fun σ' H' hb iv' => ?_) fun σ' H' hb iv' => ?_
    · rw [hb] at e2
      obtain ⟨s', e3, e4⟩ := bd_some (show ((f b.2).bind fun s' => whileS cm f m s') = some s1 from e2)
      exact ⟨Iv s', fun σ2 H2 p => ⟨m, Nat.lt_succ_self _, s', p, e4⟩, body b.2 s' σ' H' iv' e3⟩
    · rw [hb] at e2
      cases (show some b.2 = some s1 from e2)
      exact done σ' H' iv'
theorem rd_whileC {cm : S → Option (Bool × S)} {f : S → Option (Ctl S ρ)} {N : Nat} {s0 : S} {c1 : Ctl S ρ} (hm : whileC cm f N s0 = some c1) (Iv : S → L2.St → Hp → Prop) (h0 : Iv s0 σ H)
    (turn : ∀ (s : S) (b : Bool × S) (σ : L2.St) (H : Hp) (T : L2.St → Hp → Prop) (E : L2.St → Hp → Prop), Iv s σ H → cm s = some b → (∀ σ' H', b.1 = true → Iv b.2 σ' H' → T σ' H') → (∀ σ' H', b.1 = false → Iv b.2 σ' H' → E σ' H') → c σ H fun b H1 => if b = true then T σ H1 else E σ H1)
    (body : ∀ (s : S) (c' : Ctl S ρ) (σ : L2.St) (H : Hp), Iv s σ H → f s = some c' → (∀ s' σ' H', c' = .bk s' → Iv s' σ' H' → Nx σ' H') → (∀ r, c' = .rt r → c1 = .rt r) →
      tb ⟨fun σ' H' => ∃ s', c' = .nx s' ∧ Iv s' σ' H', Rx, Nx, fun σ' H' => ∃ s', c' = .nx s' ∧ Iv s' σ' H'⟩ σ H)
    (done : ∀ s σ H, c1 = .nx s → Iv s σ H → Nx σ H) : tWhile c tb ⟨Nx, Rx, Bx, Cx⟩ σ H := by
  refine ⟨fun m σ H => ∃ s, Iv s σ H ∧ whileC cm f m s = some c1, ⟨N, s0, h0, hm⟩, ?_⟩
  rintro m σ H ⟨s, iv, h⟩
  cases m with
  | zero => cases h
  | succ m =>
    obtain ⟨b, e1, e2⟩ := bd_some h
    refine turn s b σ H (fun σ H1 => ∃ N : L2.St → Hp → Prop, (∀ σ' H', N σ' H' → ∃ m', m' < m + 1 ∧ ∃ s, Iv s σ' H' ∧ whileC cm f m' s = some c1) ∧ tb ⟨N, Rx, Nx, N⟩ σ H1) (fun σ H1 => Nx σ H1) iv e1 (fun σ' H' hb iv' => ?_) fun σ' H' hb iv' => ?_
    · rw [hb] at e2
      obtain ⟨c', e3, e4⟩ := bd_some (show ((f b.2).bind fun c' => match c' with
        | .nx s' => whileC cm f m s'
        | .bk s' => some (.nx s')
        | .rt r => some (.rt r)) = some c1 from e2)
      refine ⟨fun σ' H' => ∃ s', c' = .nx s' ∧ Iv s' σ' H', fun σ2 H2 p => ?_, body b.2 c' σ' H' iv' e3 (fun s' σ2 H2 e p => ?_) fun r e => ?_⟩
      · obtain ⟨s', rfl, p⟩ := p
        exact ⟨m, Nat.lt_succ_self _, s', p, e4⟩
      · subst e
        exact done s' σ2 H2 (Option.some.inj e4).symm p
      · subst e
        exact (Option.some.inj e4).symm
    · rw [hb] at e2
      exact done b.2 σ' H' (Option.some.inj (show some (.nx b.2) = some c1 from e2)).symm iv'
end
/-! ## comprehensions -/
def fitsE {α : Type} (a : List α) : Bool := decide (a.length ≤ sizeLine)
/-- f: an item's value, if it is kept, and the state behind it -/
def comp {α β S : Type} (f : α → S → Option (Option β × S)) : List α → S → Option (List β × S)
  | [], s => some ([], s)
  | x :: xs, s => (f x s).bind fun o => (comp f xs o.2).bind fun r => some (match o.1 with
    | some y => (y :: r.1, r.2)
    | none => r)
/-- what a comprehension's loop asks -/
abbrev LcG (J : It) (g : TG) (tt : TT) (te : TE) (vs : List Nat) (σ : L2.St) (D : Addr) (Q : VK) (H1 : Hp) : Prop :=
  ∃ W : Nat → Nat → Hp → Prop, (∃ m, W 0 m (upd H1 D (.lst []))) ∧ ∀ i m H, W i m H →
  (J.stop i H ∧ Q (.ref D) H) ∨ (J.go i H ∧ ∃ Nx : Hp → Prop, (∀ H', Nx H' → ∃ m', m' < m ∧ W (i + 1) m' H') ∧ ∀ x H', J.yld i H x H' → g x (wipe σ vs) H' fun σ2 H2 => wipe σ2 vs = wipe σ vs ∧ tt σ2 H2 fun b H3 =>
    if b = true then te σ2 H3 fun y H4 => ∃ acc, H4 D = some (.lst acc) ∧ acc.length < sizeLine ∧ Nx (upd H4 D (.lst (acc ++ [y]))) else Nx H3)
section
variable {J : It} {n : Nat} {G : Hp → Prop} {it : Nat → V → Prop} {α β S : Type} {A : R α} {B : R β} {K : PySem.W.Frag} {F1 H1 : Hp} {xs : List α} {g : TG} {tt : TT} {te : TE} {vs : List Nat} {σ : L2.St} {Q : VK}
theorem comp_at {f : α → S → Option (Option β × S)} {i : Nat} {a : α} {s : S} {r : List β × S} (h : comp f (xs.drop i) s = some r) (ha : xs[i]? = some a) : ∃ o r', f a s = some o ∧ comp f (xs.drop (i + 1)) o.2 = some r' ∧ r = (match o.1 with
    | some y => (y :: r'.1, r'.2)
    | none => r') := by
  have hi : i < xs.length := (List.getElem?_eq_some_iff.mp ha).1
  have e : xs.drop i = a :: xs.drop (i + 1) := by
    rw [List.drop_eq_getElem_cons hi]
    rw [(List.getElem?_eq_some_iff.mp ha).2]
  rw [e] at h
  obtain ⟨o, e1, h2⟩ := bd_some h
  obtain ⟨r', e2, h3⟩ := bd_some h2
  exact ⟨o, r', e1, e2, (Option.some.inj h3).symm⟩
/-- c: the step from the comprehension's start (F1, H1); Ex: what holds of the objects that it changes (Pc) -/
theorem rd_comp (Fd : Feeds J n G it) (Ty : Typed A K F1 n it xs) {f : α → S → Option (Option β × S)} {s0 : S} {r : List β × S} (hm : comp f xs s0 = some r) (hz : fitsE xs = true) {Pc : Addr → Prop} (hlv : ∀ a, Pc a → H1 a ≠ none) (hsub : Same F1 H1) (Ex : S → Hp → Hp → Prop)
    (hG : ∀ s F H, Sx Pc F1 H1 F H → Ex s F H → G H) (h0 : Ex s0 F1 H1) (hEx : ∀ s F H q o, Ex s F H → H1 q = none → H q = none → Ex s F (upd H q o)) (hEp : ∀ s F H q u o, Ex s F H → H1 q = none → H q = some u → Ex s F (upd H q o))
    (turn : ∀ (a : α) (x : V) (s : S) (o : Option β × S) (F H : Hp) (D : Addr) (acc : List V), A.r K F1 x a → Sx Pc F1 H1 F H → Ex s F H → Ow Pc H1 F H D (.lst acc) → H1 D = none → f a s = some o →
      ∀ (E : Hp → Prop) (N : V → Hp → Prop), (∀ y b F' H', o.1 = some b → Sx Pc F H F' H' → B.r K F' y b → Ex o.2 F' H' → N y H') → (∀ F' H', o.1 = none → Sx Pc F H F' H' → Ex o.2 F' H' → E H') →
      g x (wipe σ vs) H fun σ2 H2 => wipe σ2 vs = wipe σ vs ∧ tt σ2 H2 fun b H3 => if b = true then te σ2 H3 N else E H3)
    (done : ∀ D us F H, H1 D = none → Sx Pc F1 H1 F H → Ex r.2 F H → Ow Pc H1 F H D (.lst us) → Row B K F us r.1 → Q (.ref D) H) : ∀ D, H1 D = none → LcG J g tt te vs σ D Q H1 := by
  intro D hD
  refine ⟨fun i m H => m = n - i ∧ i ≤ n ∧ ∃ s F acc ys r', Sx Pc F1 H1 F H ∧ Ex s F H ∧ Ow Pc H1 F H D (.lst acc) ∧ Row B K F acc ys ∧ acc.length ≤ i ∧ comp f (xs.drop i) s = some r' ∧ r = (ys ++ r'.1, r'.2), ⟨n, by simp, Nat.zero_le _, s0, F1, [], [], r, ?_, ?_, ?_, .nil, Nat.le_refl _, hm, rfl⟩, ?_⟩
  · exact (Sx.refl hsub hlv).temp hD
  · exact hEx _ _ _ _ _ h0 hD hD
  · exact (Sx.refl hsub hlv).own hD
  rintro i m H ⟨rfl, hi, s, F, acc, ys, r', S, ex, w, row, hal, hl, hr⟩
  by_cases hlt : i < n
  · obtain ⟨a, ha⟩ : ∃ a, xs[i]? = some a := ⟨xs[i]'(by rw [Ty.len]; exact hlt), by simp [Ty.len, hlt]⟩
    obtain ⟨o, r2, e1, e2, e3⟩ := comp_at hl ha
    refine .inr ⟨Fd.go i H hlt (hG s F H S ex), fun H' => ∃ s F acc ys r', Sx Pc F1 H1 F H' ∧ Ex s F H' ∧ Ow Pc H1 F H' D (.lst acc) ∧ Row B K F acc ys ∧ acc.length ≤ i + 1 ∧ comp f (xs.drop (i + 1)) s = some r' ∧ r = (ys ++ r'.1, r'.2), fun H' p' => ⟨n - (i + 1), by omega, rfl, hlt, p'⟩, fun x H' y => ?_⟩
    obtain ⟨rfl, hx⟩ := Fd.yld i H x H' hlt (hG s F H S ex) y
    obtain ⟨a', ha', ra⟩ := Ty.at_ i x hx
    rw [ha] at ha'
    cases ha'
    have nD : ∀ F' H'', Sx Pc F H' F' H'' → Ow Pc H1 F' H'' D (.lst acc) := fun F' H'' c => w.call c fun z => hlv D z hD
    have hsz : acc.length < sizeLine := by
      have := of_decide_eq_true hz
      rw [Ty.len] at this
      omega
    refine turn a x s o F H' D acc ra S ex w hD e1 _ _ (fun y b F' H'' ho c rb ex' => ?_) fun F' H'' ho c ex' => ?_
    · have w' := nD F' H'' c
      have S' : Sx Pc F1 H1 F' H'' := S.call c fun a z => .inl z
      refine ⟨acc, w'.at_, hsz, o.2, F', acc ++ [y], ys ++ [b], r2, S'.put w', hEp _ _ _ _ _ _ ex' hD w'.at_, w'.put, (Row.mono c.le row).snoc rb, by simp; omega, e2, ?_⟩
      rw [hr, e3, ho]
      simp
    · have w' := nD F' H'' c
      have S' : Sx Pc F1 H1 F' H'' := S.call c fun a z => .inl z
      refine ⟨o.2, F', acc, ys, r2, S', ex', w', Row.mono c.le row, by omega, e2, ?_⟩
      rw [hr, e3, ho]
  · have e : i = n := by omega
    subst e
    rw [← Ty.len, List.drop_length] at hl
    cases hl
    refine .inl ⟨Fd.stop H (hG _ F H S ex), ?_⟩
    rw [hr] at done
    exact done D acc F H hD S ex w (by simpa using row)
end
/-! ## steps: what is new behind each is told by names -/
section
variable {P : Addr → Prop} {F0 H0 F H : Hp} {Q : VK} {α : Type} {A : R α} {K : PySem.W.Frag}
/-- a new object, of one's own -/
theorem al {o : HO} (S : Sx P F0 H0 F H) (k : ∀ p H', H p = none → Sx P0 F H F H' → Ow P H0 F H' p o → Q (.ref p) H') : nK Q H o :=
  fun p hp => k p _ hp ((Sx.refl0 S.sub).temp hp) (S.own hp)
/-- a new object that stands for good -/
theorem alF {o : HO} (S : Sx P F0 H0 F H) (k : ∀ p F' H', Sx P0 F H F' H' → F' p = some o → Q (.ref p) H') : nK Q H o :=
  fun p hp => k p _ _ ((Sx.refl0 S.sub).alloc hp) upd_same
theorem alT {vs : List V} {xs : List α} (S : Sx P F0 H0 F H) (r : Row A K F vs xs) (k : ∀ v F' H', Sx P0 F H F' H' → (qT A).r K F' v xs → Q v H') : nK Q H (.tup vs) :=
  alF S fun p F' H' c h => k _ F' H' c ⟨p, vs, rfl, .inl (.inl h), Row.mono c.le r⟩
theorem alL {vs : List V} {xs : List α} (S : Sx P F0 H0 F H) (r : Row A K F vs xs) (k : ∀ v F' H', Sx P0 F H F' H' → (qL A).r K F' v xs → Q v H') : nK Q H (.lst vs) :=
  alF S fun p F' H' c h => k _ F' H' c ⟨p, vs, rfl, h, Row.mono c.le r⟩
/-- the same where the row is handed on -/
theorem alL' {xs : List α} (S : Sx P F0 H0 F H) (k : ∀ v F' H', Sx P0 F H F' H' → (qL A).r K F' v xs → Q v H') : nL A K F Q H xs :=
  fun p us hp r => alL S r k p hp
theorem alT' {xs : List α} (S : Sx P F0 H0 F H) (k : ∀ v F' H', Sx P0 F H F' H' → (qT A).r K F' v xs → Q v H') : nT A K F Q H xs :=
  fun p us hp r => alT S r k p hp
variable {p : Addr} {vs : List V} {xs : List α}
theorem ap (S : Sx P F0 H0 F H) (w : Ow P H0 F H p (.lst vs)) (r : Row A K F vs xs) {y : V} (h : fits xs = true) (k : ∀ H', Sx (fun a => a = p) F H F H' → Ow P H0 F H' p (.lst (vs ++ [y])) → Q .non H') : rAppend (.ref p) [y] H Q :=
  rd_app w r h (k _ ((Sx.refl S.sub fun a z => by rw [z, w.at_]; exact fun h => nomatch h).put w.arg) w.put)
theorem ex' (S : Sx P F0 H0 F H) (w : Ow P H0 F H p (.lst vs)) (r : Row A K F vs xs) {b : V} {ys : List α} (s : SeenL A K F H b ys) (h : fits2 xs ys = true) (k : ∀ us H', Sx (fun a => a = p) F H F H' → Ow P H0 F H' p (.lst (vs ++ us)) → Row A K F (vs ++ us) (xs ++ ys) → Q .non H') : rExtend (.ref p) [b] H Q :=
  rd_extend w r s h fun us r2 => k us _ ((Sx.refl S.sub fun a z => by rw [z, w.at_]; exact fun h => nomatch h).put w.arg) w.put (pApp r r2)
/-- an own list is let stand for good -/
theorem fz (S : Sx P F0 H0 F H) (w : Ow P H0 F H p (.lst vs)) (h0 : H0 p = none) (r : Row A K F vs xs) : ∃ F', Sx P F0 H0 F' H ∧ Same F F' ∧ (qL A).r K F' (.ref p) xs ∧ F' p ≠ none ∧ ∀ q, q ≠ p → F' q = F q :=
  ⟨upd F p (.lst vs), S.freeze w h0, w.leF, ⟨p, vs, rfl, upd_same, Row.mono w.leF r⟩, by (rw [upd_same]; exact (fun h => nomatch h)), fun q hq => upd_ne hq⟩
theorem Ow.fzO {F' : Hp} {o : HO} {q : Addr} (w : Ow P H0 F H q o) (n : q ≠ p) (e : ∀ q, q ≠ p → F' q = F q) : Ow P H0 F' H q o := ⟨by rw [e q n]; exact w.fr, w.at_, w.mine⟩
end
end Gl
namespace Gl
open PySem PySem.Spec PyProof.Rows L2
/-! ## defs by names -/
def fdDefault : FuncData := PySem.W.fnOf "" "" { posonlyargs := [], args := [], vararg := none, kwonlyargs := [], kw_defaults := [], kwarg := none, defaults := [] } [] { kind := .function, names := [], isGenerator := false, isCoroutine := false } .none .none .none .none none .none .none
def fdOf (K : PySem.W.Frag) (p : Str × Option Str) : FuncData := match K.lookup (He.fAd K p) with
  | some ⟨_, _, .func fd, _⟩ => fd
  | _ => fdDefault
abbrev FnD' (K : PySem.W.Frag) (p : Str × Option Str) (x q : Str) (st : Stmt) : Prop := FunD K x q (defArgs st) (defBody st) (defScope st) [] [] (He.fAd K p) (fdOf K p)
theorem fdOf_eq {K : PySem.W.Frag} {p : Str × Option Str} {x q : Str} {ps : Arguments} {body : List Stmt} {sc : Scope} {dvs : List V} {kws : List (Str × V)} {fd : FuncData} (F : FunD K x q ps body sc dvs kws (He.fAd K p) fd) : fd = fdOf K p := by
  obtain ⟨oc, od, dV, kV, doc, pm, an, cdv, ct, osl, e, lk, _⟩ := F.ex
  unfold fdOf
  rw [lk]
theorem fd_of {fa : List He.Fa} {fn : List He.DefD} {K : PySem.W.Frag} (c : He.SaysD fa fn K) (i : Nat) {d : He.DefD} (h : fn[i]? = some d := by rfl) : FunD K d.name d.qual d.params d.body d.scope (d.dvs K) (d.kws K) (He.fAd K d.at_) (fdOf K d.at_) := by
  obtain ⟨fd, F⟩ := c.def_ i h
  have e := fdOf_eq F
  subst e
  exact F
/-! ## a list of two ints that is drawn from -/
section
variable {P : Addr → Prop} {F0 H0 F H : Hp} {Q : VK} {K : PySem.W.Frag} {p : Addr} {a b c : V}
theorem pool0 (w : Ow P H0 F H p (.lst [a, b])) (k : Q a H) : rIxL K (.ref p) (.int 0) H Q := ⟨p, [a, b], 0, a, rfl, rfl, SqL.of w.at_, rfl, k⟩
theorem pool1 (w : Ow P H0 F H p (.lst [a, b])) (k : Q b H) : rIxL K (.ref p) (.int 1) H Q := ⟨p, [a, b], 1, b, rfl, rfl, SqL.of w.at_, rfl, k⟩
theorem putS (S : Sx P F0 H0 F H) {o u : HO} (w : Ow P H0 F H p o) : Sx (fun a => a = p) F H F (upd H p u) := (Sx.refl S.sub fun a z => by rw [z, w.at_]; exact fun h => nomatch h).put w.arg
theorem pset0 {R : Hp → Prop} (S : Sx P F0 H0 F H) (w : Ow P H0 F H p (.lst [a, b])) (k : ∀ H', Sx (fun a => a = p) F H F H' → Ow P H0 F H' p (.lst [c, b]) → R H') : rSetL (.ref p) (.int 0) c H R := ⟨p, [a, b], 0, 0, rfl, rfl, w.at_, rfl, k _ (putS S w) w.put⟩
theorem pset1 {R : Hp → Prop} (S : Sx P F0 H0 F H) (w : Ow P H0 F H p (.lst [a, b])) (k : ∀ H', Sx (fun a => a = p) F H F H' → Ow P H0 F H' p (.lst [a, c]) → R H') : rSetL (.ref p) (.int 1) c H R := ⟨p, [a, b], 1, 1, rfl, rfl, w.at_, rfl, k _ (putS S w) w.put⟩
end
end Gl
namespace Gl
open PySem PySem.Spec PyProof.Rows L2
/-! ## readings, construct by construct -/
section
variable {σ : L2.St} {H : Hp} {Q : VK} {v : V} {i j : Int} {ta tb tc te : TE} {t u : TT} {r : R2} {D : Ends} {tr : TA} {K : PySem.W.Frag} {b : Bool}
theorem rd_v {i : Nat} (h : σ[i]? = some (some v)) (k : Q v H) : tVar i σ H Q := ⟨v, h, k⟩
theorem rd_c (k : Q v H) : tC v σ H Q := k
theorem rd_op (k : ta σ H fun x H1 => tb σ H1 fun y H2 => r x y H2 Q) : tOp r ta tb σ H Q := k
theorem rd_un {r : V → Hp → VK → Prop} (k : ta σ H fun x H1 => r x H1 Q) : tUn r ta σ H Q := k
theorem rd_I0 {g : Int → Int → V} (k : Q (g i j) H) : rI0 g (.int i) (.int j) H Q := ⟨i, j, rfl, rfl, k⟩
theorem rd_I {C : Int → Int → Prop} {g : Int → Int → V} (c : C i j) (k : Q (g i j) H) : rI C g (.int i) (.int j) H Q := ⟨i, j, rfl, rfl, c, k⟩
theorem rd_U {g : Int → V} (k : Q (g i) H) : rU g (.int i) H Q := ⟨i, rfl, k⟩
theorem rd_S0 {g : Str → Str → V} {x y : Str} (k : Q (g x y) H) : rS0 g (.str x) (.str y) H Q := ⟨x, y, rfl, rfl, k⟩
def rCatS : R2 := fun x y H Q => ∃ i j, x = .str i ∧ y = .str j ∧ i.length + j.length ≤ sizeLine ∧ Q (.str (i ++ j)) H
theorem op_catS {X : Cx} : OpR X (binaryOp .Add) rCatS := op_add_str
theorem rd_catS {x y : Str} (h : catOk x y = true) (k : Q (.str (x ++ y)) H) : rCatS (.str x) (.str y) H Q := ⟨x, y, rfl, rfl, catOk_of h, k⟩
def rInS : R2 := fun x y H Q => ∃ i j, x = .str i ∧ y = .str j ∧ Q (.bl (inS i j)) H
def rNiS : R2 := fun x y H Q => ∃ i j, x = .str i ∧ y = .str j ∧ Q (.bl (!inS i j)) H
theorem op_inS {X : Cx} : OpR X (compareOp .In) rInS := op_in_str
theorem op_niS {X : Cx} : OpR X (compareOp .NotIn) rNiS := op_notin_str
theorem rd_inSS {x y : Str} (k : Q (.bl (inS x y)) H) : rInS (.str x) (.str y) H Q := ⟨x, y, rfl, rfl, k⟩
theorem rd_niSS {x y : Str} (k : Q (.bl (!inS x y)) H) : rNiS (.str x) (.str y) H Q := ⟨x, y, rfl, rfl, k⟩
theorem rd_ixS {x z : Str} (h : ixS x i = some z) (k : Q (.str z) H) : rIxS (.str x) (.int i) H Q := by
  obtain ⟨c, h1, h2, rfl⟩ := ixS_some h
  exact ⟨x, i, c, rfl, rfl, h1, h2, k⟩
theorem rd_slS {z : Str} {lo hi : Option Int} (h : fitsS z = true) (k : Q (.str (cutS z lo hi)) H) : rSlS (.str z) lo hi H Q := ⟨z, rfl, fitsS_of h, k⟩
/-! tests -/
variable {QB : Bool → Hp → Prop}
/-- what is wanted of a truth -/
def bK (QB : Bool → Hp → Prop) : VK := fun x H => ∃ k, x = .bl k ∧ QB k H
theorem rd_test (k : te σ H (bK QB)) : tTest te σ H QB := k
theorem rd_tB (k : te σ H (bK QB)) : tB te σ H QB := k
theorem rd_b (k : QB b H) : bK QB (.bl b) H := ⟨b, rfl, k⟩
theorem rd_and (k : t σ H fun c H1 => if c = true then u σ H1 QB else QB false H1) : tAnd t u σ H QB := k
theorem rd_or (k : t σ H fun c H1 => if c = true then QB true H1 else u σ H1 QB) : tOr t u σ H QB := k
theorem rd_not (k : t σ H fun c H1 => QB (!c) H1) : tNot t σ H QB := k
theorem rd_andV (k : ta σ H (bK fun c H1 => if c = true then tb σ H1 Q else Q (.bl false) H1)) : tAndV ta tb σ H Q := k
theorem rd_notV (k : ta σ H (bK fun c H1 => Q (.bl (!c)) H1)) : tNotV ta σ H Q := k
theorem rd_ifE (k : t σ H fun c H1 => if c = true then ta σ H1 Q else tb σ H1 Q) : tIf t ta tb σ H Q := k
theorem rd_yes (k : QB true H) : tYes σ H QB := k
/-! arguments, calls -/
variable {QA : List V → Hp → Prop}
theorem rd_nil (k : QA [] H) : tNil σ H QA := k
theorem rd_cons (k : te σ H fun x H1 => tr σ H1 fun xs H2 => QA (x :: xs) H2) : tCons te tr σ H QA := k
theorem rd_call {sp : Sp} {dvs : List V} {E : XK} (k : tr σ H fun vs H1 => sp (vs ++ dvs) H1 Q E) : tCall sp dvs E tr σ H Q := k
theorem rd_cb {r : List V → Hp → VK → Prop} (k : tr σ H fun xs H1 => r xs H1 Q) : tCB r tr σ H Q := k
def lK (Q : VK) : List V → Hp → Prop := fun xs H1 => xs.length ≤ sizeLine ∧ ∀ p, H1 p = none → Q (.ref p) (upd H1 p (.lst xs))
def uK (Q : VK) : List V → Hp → Prop := fun xs H1 => xs.length ≤ sizeLine ∧ ∀ p, H1 p = none → Q (.ref p) (upd H1 p (.tup xs))
theorem rd_lst (k : tr σ H (lK Q)) : tLst tr σ H Q := k
theorem rd_lK {xs : List V} (h : Nat.ble xs.length 1000 = true) (k : nK Q H (.lst xs)) : lK Q xs H := ⟨Nat.le_trans (Nat.le_of_ble_eq_true h) (by decide), k⟩
theorem rd_uK {xs : List V} (h : Nat.ble xs.length 1000 = true) (k : nK Q H (.tup xs)) : uK Q xs H := ⟨Nat.le_trans (Nat.le_of_ble_eq_true h) (by decide), k⟩
theorem rd_tup (k : tr σ H (uK Q)) : tTup tr σ H Q := k
theorem rd_bm {T : String} {r : V → List V → Hp → VK → Prop} (k : te σ H fun x H1 => tyV K T x H1 ∧ tr σ H1 fun xs H2 => r x xs H2 Q) : tBM K T r te tr σ H Q := k
theorem rd_ty {A B : Prop} (h : A) (k : B) : A ∧ B := ⟨h, k⟩
/-! slices -/
variable {QO : Option Int → Hp → Prop}
theorem rd_sl {r : V → Option Int → Option Int → Hp → VK → Prop} {tl th : TO} (k : te σ H fun x H1 => tl σ H1 fun l H2 => th σ H2 fun u H3 => r x l u H3 Q) : tSl r te tl th σ H Q := k
theorem rd_np (k : QO none H) : tNoPart σ H QO := k
def iK (QO : Option Int → Hp → Prop) : VK := fun x H => ∃ i, x = .int i ∧ QO (some i) H
theorem rd_pt (k : te σ H (iK QO)) : tPart te σ H QO := k
theorem rd_i (k : QO (some i) H) : iK QO (.int i) H := ⟨i, rfl, k⟩
/-! built-ins -/
def rInt1 : List V → Hp → VK → Prop := fun xs H Q => (∃ i, xs = [.int i] ∧ Q (.int i) H) ∨ ∃ k, xs = [.bl k] ∧ Q (.int (if k then 1 else 0)) H
theorem cr_int {X : Cx} : CallR X (.type "int") rInt1 := call_int1
theorem rd_intI (k : Q (.int i) H) : rInt1 [.int i] H Q := .inl ⟨i, rfl, k⟩
theorem rd_intB (k : Q (.int (b2I b)) H) : rInt1 [.bl b] H Q := .inr ⟨b, rfl, k⟩
def rMax2 : List V → Hp → VK → Prop := fun xs H Q => ∃ i j, xs = [.int i, .int j] ∧ Q (.int (if j > i then j else i)) H
theorem cr_max2 {X : Cx} (hc : X.calm = true) : CallR X (.builtin "max") rMax2 := call_max2 hc
theorem rd_max2 (k : Q (.int (maxI i j)) H) : rMax2 [.int i, .int j] H Q := ⟨i, j, rfl, k⟩
def rMin2 : List V → Hp → VK → Prop := fun xs H Q => ∃ i j, xs = [.int i, .int j] ∧ Q (.int (if j < i then j else i)) H
theorem cr_min2 {X : Cx} (hc : X.calm = true) : CallR X (.builtin "min") rMin2 := call_min2 hc
theorem rd_min2 (k : Q (.int (minI i j)) H) : rMin2 [.int i, .int j] H Q := ⟨i, j, rfl, k⟩
def rLenS : List V → Hp → VK → Prop := fun xs H Q => ∃ z, xs = [.str z] ∧ z.length ≤ sizeLine ∧ Q (.int z.length) H
theorem cr_lenS {X : Cx} : CallR X (.builtin "len") rLenS := call_len_str
theorem rd_lenS {z : Str} (h : fitsS z = true) (k : Q (.int (z.length : Int)) H) : rLenS [.str z] H Q := ⟨z, rfl, fitsS_of h, k⟩
def rLenQ (K : PySem.W.Frag) : List V → Hp → VK → Prop := fun xs H Q => ∃ p ys, xs = [.ref p] ∧ (SqL K H p ys ∨ SqT K H p ys) ∧ Q (.int ys.length) H
theorem cr_lenQ {X : Cx} : CallR X (.builtin "len") (rLenQ X.K) := call_len_seq
theorem rd_lenQ {α : Type} {A : R α} {F : Hp} {xs : List α} (s : SeenQ A K F H v xs) (k : Q (.int (xs.length : Int)) H) : rLenQ K [v] H Q := rd_len s k
/-! targets, statements -/
variable {QS : L2.St → Hp → Prop} {g : TG} {ts us : TS} {N B C : L2.St → Hp → Prop} {R : VK}
theorem rd_gn {i : Nat} (k : QS (σ.set i (some v)) H) : gName i v σ H QS := k
theorem rd_gsub {st : TSet} (k : ta σ H fun o H1 => tb σ H1 fun i H2 => st o i v H2 fun H3 => QS σ H3) : gSub ta tb st v σ H QS := k
theorem rd_seq (k : ts ⟨us ⟨N, R, B, C⟩, R, B, C⟩ σ H) : tSeq ts us ⟨N, R, B, C⟩ σ H := k
theorem rd_asg (k : te σ H fun x H1 => g x σ H1 N) : tAsg te g ⟨N, R, B, C⟩ σ H := k
theorem rd_ifS (k : t σ H fun b H1 => if b = true then ts D σ H1 else us D σ H1) : tIfS t ts us D σ H := k
theorem rd_ret (k : te σ H R) : tRet te ⟨N, R, B, C⟩ σ H := k
theorem rd_drop (k : te σ H fun _ H1 => N σ H1) : tDrop te ⟨N, R, B, C⟩ σ H := k
theorem rd_next (k : N σ H) : tNext ⟨N, R, B, C⟩ σ H := k
theorem rd_cut (Mid : L2.St → Hp → Prop) (h : ts ⟨Mid, R, B, C⟩ σ H) (k : ∀ σ' H', Mid σ' H' → us ⟨N, R, B, C⟩ σ' H') : C8.tCut ts us ⟨N, R, B, C⟩ σ H := ⟨Mid, h, k⟩
theorem rd_aug {i : Nat} {ti : TIp} {x : V} (h : σ[i]? = some (some x)) (k : te σ H fun y H1 => ti x y H1 fun z H2 => N (σ.set i (some z)) H2) : tAug i te ti ⟨N, R, B, C⟩ σ H := ⟨x, h, k⟩
theorem rd_ipI {f : Int → Int → Int} (k : Q (.int (f i j)) H) : ipI f (.int i) (.int j) H Q := ⟨i, j, rfl, rfl, k⟩
theorem rd_for {wi : TI} (k : wi σ H fun J H1 => ForG J g ts D σ H1) : tFor wi g ts D σ H := k
theorem rd_lc {wi : TI} {vs : List Nat} (k : wi σ H fun J H1 => ∀ D, H1 D = none → LcG J g t te vs σ D Q H1) : tLc wi g t te vs σ H Q := k
variable {RI : It → Hp → Prop}
/-- what is wanted of a walked list, tuple, text, range -/
def wL (K : PySem.W.Frag) (RI : It → Hp → Prop) : VK := fun x H1 => ∃ a, x = .ref a ∧ (∃ xs, SqL K H1 a xs) ∧ RI (Itl K a) H1
def wT (K : PySem.W.Frag) (RI : It → Hp → Prop) : VK := fun x H1 => ∃ a, x = .ref a ∧ (∃ xs, SqT K H1 a xs) ∧ RI (Itt K a) H1
def wS (RI : It → Hp → Prop) : VK := fun v H1 => ∃ x, v = .str x ∧ RI (Its x) H1
def wR1 (RI : It → Hp → Prop) : List V → Hp → Prop := fun vs H1 => ∃ j : Int, vs = [.int j] ∧ -(2 ^ 62) ≤ j ∧ j < 2 ^ 62 ∧ RI (Itr 0 j.toNat) H1
theorem rd_iL (k : te σ H (wL K RI)) : iList K te σ H RI := k
theorem rd_iT (k : te σ H (wT K RI)) : iTup K te σ H RI := k
theorem rd_iS (k : te σ H (wS RI)) : iStr te σ H RI := k
theorem rd_iR1 (k : tr σ H (wR1 RI)) : iRng1 tr σ H RI := k
theorem rd_wS {z : Str} (k : RI (Its z) H) : wS RI (.str z) H := ⟨z, rfl, k⟩
def rgOk (a b : Int) : Bool := (decide (-(2 ^ 62) ≤ a) && decide (a < 2 ^ 62)) && (decide (-(2 ^ 62) ≤ b) && decide (b < 2 ^ 62))
theorem rd_r1 {n : Int} (h : rgOk 0 n = true) (k : RI (Itr 0 (n - 0).toNat) H) : wR1 RI [.int n] H := by
  unfold rgOk at h
  simp only [Bool.and_eq_true, decide_eq_true_eq] at h
  exact ⟨n, rfl, h.2.1, h.2.2, by rw [Int.sub_zero] at k; exact k⟩
end
end Gl
namespace Gl
open PySem PySem.Spec PyProof.Rows L2
theorem if_t {α : Type} {b : Bool} {x y r : α} (h : (if b = true then x else y) = r) (hb : b = true) : x = r := by
  rw [hb] at h; exact h
theorem if_f {α : Type} {b : Bool} {x y r : α} (h : (if b = true then x else y) = r) (hb : b = false) : y = r := by
  rw [hb] at h; exact h
theorem if_tt {A B : Prop} (h : A) : if true = true then A else B := h
theorem aft_nx {S ρ : Type} {s : S} {k : S → Option ρ} {r : Option ρ} (h : aft (.nx s) k = r) : k s = r := h
theorem aft_rt {S ρ : Type} {v : ρ} {k : S → Option ρ} {r : Option ρ} (h : aft (.rt v) k = r) : some v = r := h
/-! ## text times int, list(text) -/
section
variable {X : Cx}
def repS (x : Str) (n : Int) : Str := Txt.mul x n
def repOk (x : Str) (n : Int) : Bool := (decide (-(2 ^ 62) ≤ n) && decide (n < 2 ^ 62)) && decide (x.length * n.toNat ≤ 100000) && decide (x.length ≤ 100000)
theorem repOk_of {x : Str} {n : Int} (h : repOk x n = true) : MulOk x n := by
  unfold repOk at h
  simp only [Bool.and_eq_true, decide_eq_true_eq] at h
  obtain ⟨⟨⟨h1, h2⟩, h3⟩, h4⟩ := h
  refine ⟨?_, fun a _ => ?_, fun a _ => ?_⟩
  · have e1 : decide (n < -(2 ^ 63 : Int)) = false := decide_eq_false (by omega)
    have e2 : decide (n ≥ (2 ^ 63 : Int)) = false := decide_eq_false (by omega)
    rw [e1, e2]; rfl
  · have hn : 0 < n := by omega
    intro c
    have e3 : (x.length : Int) * n ≤ 100000 := by
      have e4 : ((x.length * n.toNat : Nat) : Int) ≤ ((100000 : Nat) : Int) := Int.ofNat_le.mpr h3
      have e5 : (n.toNat : Int) = n := Int.toNat_of_nonneg (by omega)
      rw [Int.natCast_mul, e5] at e4
      have e7 : ((100000 : Nat) : Int) = 100000 := rfl
      rw [e7] at e4
      exact e4
    have e6 : (x.length : Int) ≤ (2 ^ 63 - 1) / n := by
      rw [Int.le_ediv_iff_mul_le hn]
      omega
    omega
  · have e1 : sizeLine = 16777216 := sizeLine_eq
    unfold Builtin.Str.tooLong
    exact decide_eq_false (by omega)
def rRepS : R2 := fun x y H Q => ∃ z n, x = .str z ∧ y = .int n ∧ repOk z n = true ∧ Q (.str (repS z n)) H
theorem op_repS : OpR X (binaryOp .Mult) rRepS := by
  intro pins s σ H x y v u Q I rx ry h
  obtain ⟨z, n, rfl, rfl, ok, q⟩ := h
  obtain ⟨t, rfl⟩ := rx
  obtain ⟨t', rfl⟩ := ry
  exact SB.mul (repOk_of ok) fun t2 k => ⟨.str _, H, I.tok _, ⟨_, rfl⟩, q⟩
theorem rd_repS {H : Hp} {Q : VK} {z : Str} {n : Int} (h : repOk z n = true) (k : Q (.str (repS z n)) H) : rRepS (.str z) (.int n) H Q := ⟨z, n, rfl, rfl, h, k⟩
end
/-! ## walked rows -/
section
variable {K : PySem.W.Frag} {P : Addr → Prop} {F0 H0 F H : Hp} {v : V} {α : Type} {A : R α} {xs : List α} {RI : It → Hp → Prop} {σ : L2.St} {te : TE}
theorem rd_wLF (S : Sx P F0 H0 F H) (r : (qL A).r K F v xs) (k : ∀ p vs, SqL K F p vs → Row A K F vs xs → RI (Itl K p) H) : wL K RI v H := by
  obtain ⟨p, vs, rfl, h1, h2⟩ := r
  exact ⟨p, rfl, ⟨vs, Same.seq S.sub (SqL.of h1)⟩, k p vs (SqL.of h1) h2⟩
theorem rd_wTF (S : Sx P F0 H0 F H) (r : (qT A).r K F v xs) (k : ∀ p vs, SqT K F p vs → Row A K F vs xs → RI (Itt K p) H) : wT K RI v H := by
  obtain ⟨p, vs, rfl, h1, h2⟩ := r
  exact ⟨p, rfl, ⟨vs, same_t S.sub h1⟩, k p vs h1 h2⟩
end
/-! ## targets of two names; a block's slots -/
section
variable {K : PySem.W.Frag} {σ : L2.St} {H : Hp} {p : Addr} {u w : V} {QS : L2.St → Hp → Prop} {t g : TG} {ts : TGs} {n : Nat} {vs : List V}
theorem rd_gt2 (h : SqT K H p [u, w]) (k : ts [u, w] σ H QS) : gTup K 2 ts (.ref p) σ H QS := ⟨p, _, rfl, h, rfl, k⟩
theorem rd_gc {v : V} (k : g v σ H fun σ' H' => ts vs σ' H' QS) : gCons g ts (v :: vs) σ H QS := ⟨v, vs, rfl, k⟩
theorem rd_gl (k : QS σ H) : gNil [] σ H QS := ⟨rfl, k⟩
theorem rd_wp {A B : Prop} (h : A) (k : B) : A ∧ B := ⟨h, k⟩
end
/-! ## isinstance of a value whose kind is known -/
section
variable {K : PySem.W.Frag} {P : Addr → Prop} {F0 H0 F H : Hp} {v : V} {α β : Type} {A : R α} {B : R β} {xs : List α} {Q : VK}
theorem tx_int {i : Int} : TyX K H (.int i) (.type "int") := .base (.int i)
theorem tx_bl {i : Bool} : TyX K H (.bl i) (.type "bool") := .base (.bl i)
theorem tx_str {i : Str} : TyX K H (.str i) (.type "str") := .base (.str i)
theorem tx_non : TyX K H .non (.type "NoneType") := .base .non
theorem tx_sqt {p : Addr} {vs : List V} (h : SqT K H p vs) : TyX K H (.ref p) (.type "tuple") := by
  rcases h with (h | ⟨o, h⟩) | ⟨o, its, n, h1, h2, _⟩
  · exact .base (.tup h)
  · exact .fTuple h
  · exact .kTuple h1 h2
theorem rd_isi {t : Value} {n : String} {b : Bool} (s : TyX K H v t) (h : PySem.W.kitOne [] t (.type n) = some b) (k : Q (.bl b) H) (hk : PySem.W.kitOne K t (.type n) = PySem.W.kitOne [] t (.type n) := by rfl) : rIsi K [v, .ty n] H Q :=
  ⟨v, .ty n, t, .type n, b, rfl, .ty n, s, hk.trans h, k⟩
end
/-! ## a def's promise, its end -/
theorem live1 {P : Addr → Prop} {H0 F H : Hp} {p : Addr} {o : HO} (w : Ow P H0 F H p o) : ∀ a, a = p → H a ≠ none := fun a z => by rw [z, w.at_]; exact fun h => nomatch h
end Gl
namespace Gl
open PySem PySem.Spec PyProof.Rows L2
theorem ifE_j {b : Bool} {u1 u2 : VK → Prop} {Q : VK} (J : V → Hp → Prop) (h1 : b = true → ∀ Q' : VK, (∀ c H', J c H' → Q' c H') → u1 Q') (h2 : b = false → ∀ Q' : VK, (∀ c H', J c H' → Q' c H') → u2 Q') (k : ∀ c H', J c H' → Q c H') : if b = true then u1 Q else u2 Q := by
  cases b with
  | true => exact h1 rfl Q k
  | false => exact h2 rfl Q k
end Gl
namespace Gl
open PySem PySem.Spec PyProof.Rows L2
/-! ## what is never reached -/
theorem if_ff {A B : Prop} (h : B) : if false = true then A else B := h
section
variable {X : Cx}
theorem ps_dead {st : Stmt} : PS X st (fun _ _ _ => False) := ⟨fun _ _ _ _ _ _ h => h.elim⟩
theorem pss_dead {ss : List Stmt} : PSs X ss (fun _ _ _ => False) := ⟨fun _ _ _ _ _ _ h => h.elim⟩
end
end Gl
namespace Gl
open PySem PySem.Spec PyProof.Rows L2
/-! ## a thing of any plain kind -/
inductive Th where
  | d (x : PyData) | dct
def qTh : R Th := ⟨fun K F v a => match a with
  | .d x => Dp K F v x
  | .dct => ∃ p, v = .ref p ∧ F p = some (.dK []), fun {K F F' v a} e h => by
    cases a with
    | d x => exact Dp.mono e h
    | dct =>
      obtain ⟨p, h1, h2⟩ := h
      exact ⟨p, h1, e _ _ h2⟩⟩
def thK : Th → String
  | .d .none => "NoneType"
  | .d (.bool _) => "bool"
  | .d (.int _) => "int"
  | .d (.str _) => "str"
  | .d (.list _) => "list"
  | .d (.tuple _) => "tuple"
  | .d (.dict _) => "dict"
  | .dct => "dict"
def isK (k n : String) : Bool := k == n || (k == "bool" && n == "int")
def thIs (n : String) (a : Th) : Bool := isK (thK a) n
def thS : Th → Option Str
  | .d (.str s) => some s
  | _ => none
section
variable {K : PySem.W.Frag} {P : Addr → Prop} {F0 H0 F H : Hp} {v : V} {a : Th} {Q : VK}
theorem thS_fact {s : Str} (r : qTh.r K F v a) (h : thS a = some s) : v = .str s := by
  cases a with
  | dct => cases h
  | d x =>
    cases x with
    | str z =>
      cases (show some z = some s from h)
      cases (show Dp K F v (.str _) from r)
      rfl
    | _ => cases h
theorem tx_sql {p : Addr} {vs : List V} (h : SqL K H p vs) : TyX K H (.ref p) (.type "list") := by
  rcases h with (h | ⟨o, h⟩) | ⟨o, its, n, h1, h2, _⟩
  · exact .base (.lst h)
  · exact .base (.frz h)
  · exact .kList h1 h2
theorem tx_th (S : Sx P F0 H0 F H) (r : qTh.r K F v a) : TyX K H v (.type (thK a)) := by
  cases a with
  | dct =>
    obtain ⟨p, rfl, h⟩ := r
    exact .base (.dK (S.sub _ _ h))
  | d x =>
    cases x with
    | none => cases (show Dp K F v .none from r); exact tx_non
    | bool b => cases (show Dp K F v (.bool b) from r); exact tx_bl
    | int b => cases (show Dp K F v (.int b) from r); exact tx_int
    | str b => cases (show Dp K F v (.str b) from r); exact tx_str
    | list b =>
      cases (show Dp K F v (.list b) from r) with
      | lst h _ => exact tx_sql (Same.seq S.sub h)
    | tuple b =>
      cases (show Dp K F v (.tuple b) from r) with
      | tup h _ => exact tx_sqt (same_t S.sub h)
    | dict b => cases (show Dp K F v (.dict b) from r)
theorem rd_isiTh {n : String} (s : TyX K H v (.type (thK a))) (h : (["NoneType", "bool", "int", "str", "list", "tuple", "dict"].all fun k => decide (PySem.W.kitOne [] (.type k) (.type n) = some (isK k n))) = true) (k : Q (.bl (thIs n a)) H) (hk : ∀ t, PySem.W.kitOne K (.type t) (.type n) = PySem.W.kitOne [] (.type t) (.type n) := by intro t; rfl) : rIsi K [v, .ty n] H Q := by
  refine ⟨v, .ty n, _, .type n, thIs n a, rfl, .ty n, s, (hk _).trans ?_, k⟩
  have hm : thK a ∈ ["NoneType", "bool", "int", "str", "list", "tuple", "dict"] := by
    cases a with
    | dct => decide
    | d x => cases x <;> simp [thK]
  exact of_decide_eq_true (List.all_eq_true.mp h _ hm)
end
end Gl
namespace Gl
open PySem PySem.Spec PyProof.Rows L2
/-! ## iterators that hand out new pairs -/
structure Feeds2 (J : It) (n : Nat) (G : Hp → Prop) (it : Nat → V → V → Prop) : Prop where
  go : ∀ i H, i < n → G H → J.go i H
  stop : ∀ H, G H → J.stop n H
  yld : ∀ i H x H', i < n → G H → J.yld i H x H' → ∃ T u w, x = .ref T ∧ H T = none ∧ H' = upd H T (.tup [u, w]) ∧ it i u w
structure Typed2 {α β : Type} (A : R α) (B : R β) (K : PySem.W.Frag) (F : Hp) (n : Nat) (it : Nat → V → V → Prop) (xs : List (α × β)) : Prop where
  len : xs.length = n
  at_ : ∀ i u w, it i u w → ∃ a, xs[i]? = some a ∧ A.r K F u a.1 ∧ B.r K F w a.2
def enumI {α : Type} (xs : List α) : List (Int × α) := (rng 0 xs.length).zip xs
theorem enumI_len {α : Type} (xs : List α) : (enumI xs).length = xs.length := by
  unfold enumI
  rw [List.length_zip]
  have : (rng 0 (xs.length : Int)).length = xs.length := by unfold rng; simp
  rw [this, Nat.min_self]
theorem enumI_at {α : Type} {xs : List α} {i : Nat} {x : α} (h : xs[i]? = some x) : (enumI xs)[i]? = some ((i : Int), x) := by
  have hi : i < xs.length := (List.getElem?_eq_some_iff.mp h).1
  unfold enumI
  rw [List.getElem?_zip_eq_some]
  refine ⟨?_, h⟩
  unfold rng
  rw [List.getElem?_map, List.getElem?_range (by omega)]
  simp
/-- a new pair, then on -/
def enK (g : TG) (σ : L2.St) (H : Hp) (Q : L2.St → Hp → Prop) (u w : V) : Prop := ∀ T, H T = none → g (.ref T) σ (upd H T (.tup [u, w])) Q
section
variable {P : Addr → Prop} {F0 H0 F H : Hp} {K : PySem.W.Frag} {g : TG} {σ : L2.St} {Q : L2.St → Hp → Prop} {u w : V}
theorem alE (S : Sx P F0 H0 F H) (k : ∀ T F' H', Sx P0 F H F' H' → SqT K F' T [u, w] → g (.ref T) σ H' Q) : enK g σ H Q u w :=
  fun T hT => k T _ _ ((Sx.refl0 S.sub).alloc hT) (.inl (.inl upd_same))
end
section
variable {J : It} {n : Nat} {G : Hp → Prop} {it : Nat → V → V → Prop} {α β S ρ : Type} {A : R α} {B : R β} {K : PySem.W.Frag} {F : Hp} {xs : List (α × β)} {g : TG} {tb : TS} {σ : L2.St} {H : Hp} {Nx Bx Cx : L2.St → Hp → Prop} {Rx : VK}
theorem rd_forS2 (Fd : Feeds2 J n G it) (Ty : Typed2 A B K F n it xs) {f : α × β → S → Option S} {s0 s1 : S} (hm : loopS f xs s0 = some s1) (Iv : S → L2.St → Hp → Prop) (hG : ∀ s σ H, Iv s σ H → G H) (h0 : Iv s0 σ H)
    (turn : ∀ (a : α × β) (u w : V) (s s' : S) (σ : L2.St) (H : Hp), A.r K F u a.1 → B.r K F w a.2 → Iv s σ H → f a s = some s' → enK g σ H (fun σ2 H2 => tb ⟨Iv s', Rx, Nx, Iv s'⟩ σ2 H2) u w)
    (done : ∀ σ H, Iv s1 σ H → Nx σ H) : ForG J g tb ⟨Nx, Rx, Bx, Cx⟩ σ H := by
  refine ⟨fun i m σ H => m = n - i ∧ i ≤ n ∧ ∃ s, Iv s σ H ∧ loopS f (xs.drop i) s = some s1, ⟨n, by simp, Nat.zero_le _, s0, h0, hm⟩, ?_⟩
  rintro i m σ H ⟨rfl, hi, s, iv, hl⟩
  by_cases hlt : i < n
  · obtain ⟨a, ha⟩ : ∃ a, xs[i]? = some a := ⟨xs[i]'(by rw [Ty.len]; exact hlt), by simp [Ty.len, hlt]⟩
    obtain ⟨s', e1, e2⟩ := loopS_at hl ha
    refine .inr ⟨Fd.go i H hlt (hG s σ H iv), Iv s', fun σ' H' p' => ⟨n - (i + 1), by omega, rfl, hlt, s', p', e2⟩, fun x H' y => ?_⟩
    obtain ⟨T, u, w, rfl, hT, rfl, hx⟩ := Fd.yld i H x H' hlt (hG s σ H iv) y
    obtain ⟨a', ha', r1, r2⟩ := Ty.at_ i u w hx
    rw [ha] at ha'
    cases ha'
    exact turn a u w s s' σ H r1 r2 iv e1 T hT
  · have e : i = n := by omega
    subst e
    rw [← Ty.len, List.drop_length] at hl
    cases hl
    exact .inl ⟨Fd.stop H (hG _ σ H iv), done σ H iv⟩
end
/-! ## instances -/
section
variable {K : PySem.W.Frag} {P : Addr → Prop} {F0 H0 F H : Hp} {v : V} {Q : VK} {σ : L2.St} {ta te to : TE} {C p dx : Addr} {m f : Str} {sp : Sp} {E : XK} {t : TA} {dvs : List V} {fs : List (Str × V)}
def fdK (K : PySem.W.Frag) (f : Str) (Q : VK) : VK := fun x H1 => ∃ a C dx fs v, x = .ref a ∧ H1 a = some (.ins C dx fs) ∧ Cls K C ∧ NoAttr K C f ∧ fs.lookup f = some v ∧ Q v H1
theorem rd_fld (k : ta σ H (fdK K f Q)) : tFld K ta f σ H Q := k
theorem fd_at {u : V} (h : H p = some (.ins C dx fs)) (c : Cls K C) (n : NoAttr K C f) (l : fs.lookup f = some u) (k : Q u H) : fdK K f Q (.ref p) H := ⟨p, C, dx, fs, u, rfl, h, c, n, l, k⟩
def fsK (K : PySem.W.Frag) (f : Str) (y : V) (R : Hp → Prop) : VK := fun x H2 => ∃ a C dx fs, x = .ref a ∧ H2 a = some (.ins C dx fs) ∧ Cls K C ∧ NoAttr K C f ∧ fs.length < 1000 ∧ R (upd H2 a (.ins C dx (putF f y fs)))
theorem rd_sfld {N B C : L2.St → Hp → Prop} {R : VK} (k : te σ H fun y H1 => to σ H1 (fsK K f y (N σ))) : sFld K to te f ⟨N, R, B, C⟩ σ H := k
theorem fset {y : V} {R : Hp → Prop} {fs' : List (Str × V)} (S : Sx P F0 H0 F H) (w : Ow P H0 F H p (.ins C dx fs)) (c : Cls K C) (n : NoAttr K C f) (l : Nat.ble fs.length 900 = true) (e : putF f y fs = fs') (k : ∀ H', Sx (fun a => a = p) F H F H' → Ow P H0 F H' p (.ins C dx fs') → R H') : fsK K f y R (.ref p) H :=
  ⟨p, C, dx, fs, rfl, w.at_, c, n, Nat.lt_of_le_of_lt (Nat.le_of_ble_eq_true l) (by decide), by rw [e]; exact k _ (putS S w) w.put⟩
def mtK (C : Addr) (m : Str) (G : V → Hp → Prop) : VK := fun x H1 => ∃ a dx fs, x = .ref a ∧ H1 a = some (.ins C dx fs) ∧ fs.lookup m = none ∧ G x H1
theorem mt_at {G : V → Hp → Prop} (h : H p = some (.ins C dx fs)) (l : fs.lookup m = none) (k : G (.ref p) H) : mtK C m G (.ref p) H := ⟨p, dx, fs, rfl, h, l, k⟩
/-- a new instance: what is wanted of it -/
def mkK (C : Addr) (sp : Sp) (E : XK) (Q : VK) : List V → Hp → Prop := fun vs H1 => ∀ x dx, H1 x = none → H1 dx = none → dx ≠ x → sp (.ref x :: vs) (upd (upd H1 dx (.own x)) x (.ins C dx [])) (fun v H2 => v = .non ∧ Q (.ref x) H2) E
theorem rd_make (k : t σ H (mkK C (fun vs => sp (vs ++ dvs)) E Q)) : tMake C sp dvs E t σ H Q := k
/-- what a def with a star parameter promises, by what its body does -/
def starSp (n : Nat) (sp : Sp) : Sp := fun vs H Q E => ∃ ws rest, vs = ws ++ rest ∧ ws.length = n ∧ rest.length ≤ sizeLine ∧ ∀ p, H p = none → sp (ws ++ [.ref p]) (upd H p (.tup rest)) Q E
theorem mk_star {α : Type} {A : R α} {vs : List V} {xs : List α} (S : Sx P F0 H0 F H) (r : Row A K F vs xs) (hl : Nat.ble vs.length 900 = true)
    (k : ∀ x dx v F1 H1, H x = none → Sx P0 F H F1 H1 → Ow (fun a => a = x) H1 F1 H1 x (.ins C dx []) → (qT A).r K F1 v xs → sp [.ref x, v] H1 (fun v H2 => v = .non ∧ Q (.ref x) H2) E) : mkK C (starSp 1 sp) E Q vs H := by
  intro x dx hx hdx ne
  refine ⟨[.ref x], vs, rfl, rfl, Nat.le_trans (Nat.le_of_ble_eq_true hl) (Nat.le_trans (by decide) (show 1000 ≤ sizeLine by rw [sizeLine_eq]; decide)), fun p hp => ?_⟩
  have hdx2 : upd H dx (.own x) x = none := by rw [upd_ne (Ne.symm ne)]; exact hx
  have c1 : Sx P0 F H F (upd (upd H dx (.own x)) x (.ins C dx [])) := ((Sx.refl0 S.sub).temp hdx).temp hdx2
  have hxp : x ≠ p := fun e => by subst e; rw [upd_same] at hp; cases hp
  have c2 := c1.alloc (o := .tup vs) hp
  refine k x dx (.ref p) _ _ hx c2 ⟨?_, ?_, .inr rfl⟩ ⟨p, vs, rfl, .inl (.inl upd_same), Row.mono c2.le r⟩
  · rw [upd_ne hxp]
    exact S.free hx
  · rw [upd_ne hxp, upd_same]
/-- a new instance without a star parameter -/
theorem mk_plain {vs : List V} (S : Sx P F0 H0 F H)
    (k : ∀ x dx H1, H x = none → Sx P0 F H F H1 → Ow (fun a => a = x) H1 F H1 x (.ins C dx []) → sp (.ref x :: vs) H1 (fun v H2 => v = .non ∧ Q (.ref x) H2) E) : mkK C sp E Q vs H := by
  intro x dx hx hdx ne
  have hdx2 : upd H dx (.own x) x = none := by rw [upd_ne (Ne.symm ne)]; exact hx
  exact k x dx _ hx (((Sx.refl0 S.sub).temp hdx).temp hdx2) ⟨S.free hx, upd_same, .inr rfl⟩
/-- what __init__ has made is let stand for good -/
theorem fzI {x : Addr} {F1 H1 F' H' : Hp} {o : HO} (c1 : Sx P0 F H F1 H1) (hx : H x = none) (c : Sx (fun a => a = x) F1 H1 F' H') (w : Ow (fun a => a = x) H1 F' H' x o) : ∃ F'', Sx P0 F H F'' H' ∧ Same F' F'' ∧ F'' x = some o := by
  have S2 : Sx P0 F H F' H' := c1.call c fun a e => by subst e; exact .inr hx
  have w2 : Ow P0 H F' H' x o := ⟨w.fr, w.at_, .inl hx⟩
  exact ⟨_, S2.freeze w2 hx, w2.leF, upd_same⟩
end
/-! ## join, xs[i] = v -/
section
variable {K : PySem.W.Frag} {P : Addr → Prop} {F0 H0 F H : Hp} {v : V} {Q : VK} {α : Type} {A : R α} {xs : List α} {p : Addr} {vs : List V} {i : Int}
def joinOk (a : Str) (ys : List Str) : Bool := decide ((ys.map (·.length)).sum + ys.length * a.length ≤ 16777216)
theorem row_str {vs : List V} {xs : List Str} (r : Row qS K F vs xs) : vs = xs.map V.str := by
  induction r with
  | nil => rfl
  | cons h t ih =>
    rw [ih, show _ = _ from h]; rfl
def rJoin (K : PySem.W.Frag) : V → List V → Hp → VK → Prop := fun x xs H Q => ∃ a p, ∃ ys : List Str, x = .str a ∧ xs = [.ref p] ∧ (SqL K H p (ys.map V.str) ∨ SqT K H p (ys.map V.str)) ∧ (ys.map (·.length)).sum + ys.length * a.length ≤ 16777216 ∧ Q (.str (Txt.join a ys)) H
theorem mt_joinK {X : Cx} : MtR X "str.join" (rJoin X.K) := mt_join
theorem rd_join {a : Str} {xs : List Str} (s : SeenQ qS K F H v xs) (h : joinOk a xs = true) (k : Q (.str (Txt.join a xs)) H) : rJoin K (.str a) [v] H Q := by
  obtain ⟨p, vs, rfl, h1, r⟩ := s.seq
  obtain rfl := row_str r
  exact ⟨a, p, xs, rfl, rfl, h1, of_decide_eq_true h, k⟩
theorem tyS_str {H : Hp} {x : Str} : tyV K "str" (.str x) H := by first | exact .inr (.inl ⟨rfl, _, rfl⟩) | exact ⟨rfl, _, rfl⟩ | (unfold tyV; simp)
end
section
variable {K : PySem.W.Frag} {P : Addr → Prop} {F0 H0 F H : Hp} {v : V} {Q : VK} {α : Type} {A : R α} {xs : List α} {lo hi : Option Int}
theorem rd_slA (S : Sx P F0 H0 F H) (r : (qT A).r K F v xs) (k : ∀ v' F' H', Sx P0 F H F' H' → (qT A).r K F' v' (cut xs lo hi) → Q v' H') : rSlA K v lo hi H Q := by
  obtain ⟨p, vs, rfl, h1, h2⟩ := id r
  refine ⟨p, vs, rfl, same_t S.sub h1, fun hw => ?_, fun _ q hq => alT' S k q _ hq (row_cut h2 lo hi)⟩
  refine k _ F H (Sx.refl0 S.sub) ?_
  have e : cut xs lo hi = xs := by
    unfold cut
    rw [← pLen h2, hw.1, hw.2, List.drop_zero, Nat.sub_zero, List.take_of_length_le (by rw [pLen h2]; exact Nat.le_refl _)]
  rw [e]
  exact r
end
section
variable {X : Cx} {K : PySem.W.Frag} {e l tg : Expr} {te : TE} {f : Str} {pos : Pos}
theorem pi_tupK (hl : PE X l te) (hK : X.K = K := by rfl) : PI X tg l (iTup K te) := by subst hK; exact pi_tup hl
theorem pi_listK (hl : PE X l te) (hK : X.K = K := by rfl) : PI X tg l (iList K te) := by subst hK; exact pi_list hl
theorem pg_tupK {es : List Expr} {k n : Nat} {t : TGs} (hc : X.calm = true) (h : PGs X es t) (hK : X.K = K := by rfl)
    (hn : (assignEach es X.env).length = n := by rfl) (hst : (assignEach es X.env).findIdx? (·.1) = none := by rfl) : PG X (.Tuple es k pos) (gTup K n t) := by subst hK; exact pg_tup hc h hn hst
theorem pe_fldK (he : PE X e te) (hb : attributeBase e f X.env (eval e X.env) = eval e X.env) (hK : X.K = K := by rfl) : PE X (.Attribute e f pos) (tFld K te f) := by subst hK; exact pe_fld he hb
end
end Gl
namespace Gl
open PySem PySem.Spec PyProof.Rows L2
end Gl
namespace Gl
open PySem PySem.Spec PyProof.Rows L2
end Gl
namespace Gl
open PySem PySem.Spec PyProof.Rows L2
/-! ## dicts whose keys are tuples of any depth, their values True -/
mutual
inductive NKv (K : PySem.W.Frag) (H : Hp) : NestedKey → V → Prop
  | non : NKv K H .none .non
  | bl (b : Bool) : NKv K H (.num (if b = true then 1 else 0)) (.bl b)
  | int (i : Int) : NKv K H (.num i) (.int i)
  | txt (x : Str) : NKv K H (.text x) (.str x)
  | tup {p : Addr} {vs : List V} {ks : List NestedKey} : SqT K H p vs → NKs K H ks vs → NKv K H (.tup ks) (.ref p)
inductive NKs (K : PySem.W.Frag) (H : Hp) : List NestedKey → List V → Prop
  | nil : NKs K H [] []
  | cons {k : NestedKey} {v : V} {ks : List NestedKey} {vs : List V} : NKv K H k v → NKs K H ks vs → NKs K H (k :: ks) (v :: vs)
end
mutual
theorem NKv.mono {K : PySem.W.Frag} {F F' : Hp} (e : Same F F') : ∀ {k : NestedKey} {v : V}, NKv K F k v → NKv K F' k v
  | _, _, .non => .non
  | _, _, .bl b => .bl b
  | _, _, .int i => .int i
  | _, _, .txt x => .txt x
  | _, _, .tup h a => .tup (same_t e h) (NKs.mono e a)
theorem NKs.mono {K : PySem.W.Frag} {F F' : Hp} (e : Same F F') : ∀ {ks : List NestedKey} {vs : List V}, NKs K F ks vs → NKs K F' ks vs
  | _, _, .nil => .nil
  | _, _, .cons h a => .cons (NKv.mono e h) (NKs.mono e a)
end
section
variable {X : Cx} {pins : List (Addr × Obj)} {σ : L2.St} {H : Hp} {s : Shared}
mutual
theorem NKv.is (I : Inv X pins σ H s) : ∀ {k : NestedKey} {v : V} {u : Value}, NKv X.K H k v → RelV v u → NestedIs s.heap k u
  | _, _, u, .non, r => by
    cases r
    exact .none
  | _, _, u, .bl b, r => by
    cases r
    exact .bool rfl
  | _, _, u, .int i, r => by
    obtain ⟨t, rfl⟩ := r
    exact .int i t
  | _, _, u, .txt x, r => by
    obtain ⟨t, rfl⟩ := r
    exact .text x t
  | _, _, u, .tup h a, r => by
    cases (show u = Value.ref _ from r)
    obtain ⟨its, rv, ⟨o, e1, e2, n, e3⟩, _⟩ := I.tuple h
    exact .tup e1 e2 e3 (by simpa using NKs.is I a rv)
theorem NKs.is (I : Inv X pins σ H s) : ∀ {ks : List NestedKey} {vs : List V} {us : List Value}, NKs X.K H ks vs → Vals vs us → NestedAll s.heap ks us
  | _, _, _, .nil, .nil => .nil
  | _, _, _, .cons h a, .cons r rs => .cons (NKv.is I h r) (NKs.is I a rs)
end
end
/-- what stands for a key -/
structure Kd {α : Type} (A : R α) where
  k : α → NestedKey
  is : ∀ {K : PySem.W.Frag} {F : Hp} {v : V} {a : α}, A.r K F v a → NKv K F (k a) v
  inj : ∀ a b : α, k a = k b → a = b
  dep : ∀ a : α, (k a).depth ≤ 8
def kI : Kd qI := ⟨.num, fun {K F v a} h => by cases (show v = .int a from h); exact .int a, fun a b h => by cases h; rfl, fun a => by show 0 ≤ 8; omega⟩
end Gl
namespace Gl
open PySem PySem.W PySem.Calls PyProof.Rows
/-! ## a & b, a | b of instances whose classes find the method in the program -/
section
variable {prog : Program} {w : World} {A : Around} {E : Value → Shared → Prop} {s : Shared} {K : Frag} {x y C D f g : Addr} {ox oy : Obj} {od oe : Option Obj}
theorem bin_own {op : Operator} {Q : Value → Shared → Prop} (X : K.In s.heap) (I : InstAt s.heap x ox C od) (J : InstAt s.heap y oy D oe) (hc : selfFirst K C = true) (hd : selfFirst K D = true)
    (hs : findIn K (.ref C) (PySem.dunder op.info.2) = some (some (.ref f))) (hf : isFn K (.ref f) = true) (hr : findIn K (.ref C) (dunderR op.info.2) = some none)
    (hs2 : findIn K (.ref D) (PySem.dunder op.info.2) = some (some (.ref g))) (hr2 : findIn K (.ref D) (dunderR op.info.2) = some none) (hsub : C = D ∨ subIn K (.ref D) (.ref C) = some false)
    (h : wpAny (model prog w) A (call (.ref f) [.ref x, .ref y]) (PySem.W.CmpBack Q) E s) : wpAny (model prog w) A (binaryOp op (.ref x) (.ref y)) Q E s := by
  obtain ⟨cd, rest, hcd, hm⟩ := ksp_first hc
  obtain ⟨cd2, rest2, hcd2, hm2⟩ := ksp_first hd
  rcases hi : op.info with ⟨sym, nm'⟩
  rw [hi] at hs hr hs2 hr2
  dsimp only at hs hr hs2 hr2
  have one := ksp_try X I hs hf h
  obtain ⟨hh, g', d, tt, os⟩ := s
  have L1 : Looks (model prog w) hh (typeOf (.ref x)) (.ref C) := I.type
  have L2 : Looks (model prog w) hh (typeOf (.ref y)) (.ref D) := J.type
  have L3 : Looks (model prog w) hh (fillsNumberSlot (.ref C) nm') true := fills_K X hcd hm hs
  have L4 : Looks (model prog w) hh (fillsNumberSlot (.ref D) nm') true := fills_K X hcd2 hm2 hs2
  have L6 : Looks (model prog w) hh (numberSlotInPython (.ref C) nm') true := ksp_inPy X hs hr (.inl rfl)
  have L7 : Looks (model prog w) hh (numberSlotInPython (.ref D) nm') true := ksp_inPy X hs2 hr2 (.inl rfl)
  simp only [binaryOp, hi]
  refine wpAny_holding (wpAny_bind ?_)
  unfold binaryOp1
  refine wpAny_bind (L1.at (wpAny_bind (L2.at (wpAny_bind (L3.at ?_)))))
  by_cases hCD : C = D
  · subst hCD
    have he : (Value.ref C == Value.ref C) = true := beq_self_eq_true _
    simp only [he, if_true]
    ksp_lk
    refine wpAny_mono one (fun r s' hr' => ?_) fun _ _ e => e
    obtain ⟨v, rfl, hq⟩ := hr'
    ksp_lk
    exact hq
  · have hsub := hsub.resolve_left hCD
    have hne : (Value.ref C == Value.ref D) = false := Bool.eq_false_iff.mpr fun q => hCD (by cases beq_iff_eq.mp q; rfl)
    have L5 : Looks (model prog w) hh (isSubtype (.ref D) (.ref C)) false := looks_subIn X hsub
    simp only [hne, Bool.false_eq_true, if_false]
    ksp_lk
    refine wpAny_mono one (fun r s' hr' => ?_) fun _ _ e => e
    obtain ⟨v, rfl, hq⟩ := hr'
    ksp_lk
    exact hq
end
end Gl
namespace Gl
open PySem PySem.Spec PyProof.Rows L2
/-- what a class must have for its operator of the program's own -/
structure OwnOp (K : PySem.W.Frag) (C : Addr) (nm : String) (f : Addr) : Prop where
  first : PySem.W.selfFirst K C = true
  at_ : PySem.W.findIn K (.ref C) (PySem.dunder nm) = some (some (.ref f))
  fn : PySem.W.isFn K (.ref f) = true
  rev : PySem.W.findIn K (.ref C) (dunderR nm) = some none
def rBinO (K : PySem.W.Frag) (nm : String) (f : Addr) (sp : Sp) (E : XK) : R2 := fun x y H Q => ∃ a b C D dx dy fs gs g, x = .ref a ∧ y = .ref b ∧ H a = some (.ins C dx fs) ∧ H b = some (.ins D dy gs) ∧ OwnOp K C nm f ∧ OwnOp K D nm g ∧ (C = D ∨ PySem.W.subIn K (.ref D) (.ref C) = some false) ∧ sp [x, y] H Q E
section
variable {X : Cx} {CX : CXT} {k : Nat} {f : Addr} {fd : FuncData} {ps : List Str} {sp : Sp} {E : XK}
theorem op_binO {op : Operator} (F : FnOk X.prog X.w X.K X.mg X.base CX k f fd ps sp) (hr : Room k X.A) (hb : Binds X.K fd ps []) (hx : Passes CX X E) : OpR X (binaryOp op) (rBinO X.K op.info.2 f sp E) := by
  intro pins s σ H x y v u Q I rx ry h
  obtain ⟨a, b, C, D, dx, dy, fs, gs, g, rfl, rfl, e1, e2, o1, o2, hs, h⟩ := h
  cases rx; cases ry
  obtain ⟨ox, od, J, _⟩ := StX.insC_at I (.inr ⟨dx, fs, e1⟩)
  obtain ⟨oy, oe, J2, _⟩ := StX.insC_at I (.inr ⟨dy, gs, e2⟩)
  refine bin_own I.kIn J J2 o1.first o2.first o1.at_ o1.fn o1.rev o2.at_ o2.rev hs ?_
  have r := run_fn (X := X) (us := [.ref a, .ref b]) (vs := [.ref a, .ref b]) (dvs := []) (ds := []) F hr hb .nil hx I (.cons rfl (.cons rfl .nil)) (Q := Q) h
  refine wpAny_mono r (fun z s' hz => ?_) fun _ _ z => z
  obtain ⟨w', H', I', rw', q⟩ := id hz
  cases z with
  | notImplemented => cases w' <;> first | (obtain ⟨t, ht⟩ := rw'; cases ht; done) | (cases rw'; done) | exact absurd rw' (fun z => nomatch z)
  | _ => exact hz
end
end Gl
namespace Gl
open PySem PySem.W PySem.Calls PyProof.Rows
end Gl
namespace Gl
open PySem PySem.Spec PyProof.Rows L2
/-- what a class must have for == by a method of the program's own -/
structure OwnEq (K : PySem.W.Frag) (C f : Addr) : Prop where
  at_ : PySem.W.findIn K (.ref C) "__eq__" = some (some (.ref f))
  fn : PySem.W.isFn K (.ref f) = true
end Gl
namespace PySem
namespace OwnE
open PySem.W PySem.Calls PyProof.Rows PySem.HandSPX
/-! ## own errors over ValueError whose __init__ says super().__init__('text') and then keeps its parameters as fields -/
abbrev supS (text : Str) (j : Nat) (p0 p1 p2 p3 p4 p5 : Pos) : Stmt := .Expr (.Call (.Attribute (.Call (.Name "super" p0) [] [] p1) "__init__" p2) [.Constant (.str text) j p3] [] p4) p5
abbrev setS (f : Str) (q1 q2 q3 q4 : Pos) : Stmt := .Assign [.Attribute (.Name "self" q1) f q2] (.Name f q3) q4
/-- what the written part says of the class at C and of its __init__ at fI (q: its long name) -/
structure ErC (P : Program) (K : Frag) (C fI : Addr) (q : Str) (params : Arguments) (body : List Stmt) (scope : Scope) : Prop where
  x : L2.OexC K C
  iC : findIn K (.ref C) "__init__" = some (some (.ref fI))
  tC : typeIn K (.ref fI) = some (.type "function")
  sup : ks_superIn K C C "__init__" = some (some (.builtin "ValueError.__init__"))
  sub : subIn K (.ref C) (.type "ValueError") = some true
  own : mroIn K C (.ref C) = some true
  tp : nsIn K cStatics "thirdparty.any" = some none
  sg : nsIn K mainGlobals "super" = some none
  main : (P.main.scope.names.lookup ("super" : Str)).isSome = false
  fn : ∃ (oc : Value) (od : Option Addr) (kV doc pm : Value) (an : Option Addr) (cda : Addr) (ct : Value) (cc : Addr) (osl : Array (Option Value)) (ccl : Value) (cdd : Option Addr) (vs : Array Value) (ccs : Array (Option Value)) (file : Str) (tf : Tok) (cl : Value) (cld : Option Addr) (csl : Array (Option Value)),
    K.lookup fI = some ⟨oc, od, .func (ksFn "__init__" q params body scope .none kV doc pm an (.ref cda) ct cc), osl⟩ ∧ codeIn K (.ref cda) q = true ∧ K.lookup cda = some ⟨ccl, cdd, .fields vs, ccs⟩ ∧ vs[2]? = some (.str file tf) ∧ ((P.main.file : Str) == file) = true ∧ K.lookup cc = some ⟨cl, cld, .cell (some (.ref C)), csl⟩
section
variable {prog : Program} {w : World} {A : Around} {E : Value → Shared → Prop} {R : Result → Shared → Prop} {s : Shared} {K : Frag} {mg : Str → Option Value} {C fI : Addr} {q text : Str} {params : Arguments} {body : List Stmt} {scope : Scope}
theorem bw_call {u e t0 C : Addr} {nm q : Str} {N : Addr} {bs bm : List Value} {hdct : Bool} {sn : List Str} {sub : List Value} {ab : Bool} {col : Option Bool} {dd : Option Addr} {k0 k1 k2 k3 k5 : Option Value} {h : Heap} {g : Array GenState} {d : Drawn} {t : Nat} {os : OsState} {rest : List Value} {Q : Value → Shared → Prop}
    (hC : h.get? C = some (excClassObj nm q C N bs bm hdct sn sub ab col dd k0 k1 k2 k3 k5 "ValueError.__new__")) (he : h.get? e = some (excO C t0)) (hu : h.get? u = some (kxs_mw "ValueError.__init__" e)) (hrest : rest.length ≤ sizeLine)
    (hq : ∀ h' t1, (∀ b o, b ≠ e → h.get? b = some o → h'.get? b = some o) → h'.get? e = some (excO C t1) → Q .none ⟨h', g, d, t, os⟩) :
    wpAny (model prog w) A (call (.ref u) rest) Q E ⟨h, g, d, t, os⟩ := by
  refine wpAny_call (codeAny_of_tree ?_)
  show wpAny _ A.in1 (callAny (.ref u) ⟨rest, []⟩) _ _ _
  simp only [callAny]
  refine wpAny_bind (wpAny_load hu ?_)
  simp only [kxs_mw, show (Value.type "method-wrapper" == Value.type "method" || Value.type "method-wrapper" == Value.type "builtin_function_or_method" || Value.type "method-wrapper" == Value.type "method-wrapper") = true by decide, if_true]
  refine KFB.if_so (by decide) ?_
  refine wpAny_bind (check_bound_init PySem.F.excBase_ValueError.toExcCallFacts hC he rfl ?_)
  refine wpAny_bind (wpAny_pure (wpAny_pure ?_))
  refine ⟨plainId_quiet PySem.F.excBase_ValueError.init.plain _, codeAny_builtin PySem.F.excBase_ValueError.initEntry ?_⟩
  exact exc_init_tree (cls := .ref C) (t0 := t0) (dv := none) (c2 := .none) (c3 := .none) (b4 := .bool false) he hrest fun h' k e' _ => hq h' _ k e'
/-- super().__init__('text') -/
theorem sup_stmt (T : ErC prog K C fI q params body scope) {L x t0 cc cda : Addr} {m mb : Str → Option Value} {j : Nat} {p0 p1 p2 p3 p4 p5 : Pos} {ar : Arg} {Q : Flow → Shared → Prop} {oc : Value} {od : Option Addr} {dV kV doc pm : Value} {an : Option Addr} {ct : Value} {osl : Array (Option Value)} {ccl : Value} {cdd : Option Addr} {vs : Array Value} {ccs : Array (Option Value)} {file : Str} {tf : Tok} {cl : Value} {cld : Option Addr} {csl : Array (Option Value)}
    (lf : K.lookup fI = some ⟨oc, od, .func (ksFn "__init__" q params body scope dV kV doc pm an (.ref cda) ct cc), osl⟩) (lc : K.lookup cda = some ⟨ccl, cdd, .fields vs, ccs⟩) (hvs : vs[2]? = some (.str file tf)) (hfile : ((prog.main.file : Str) == file) = true)
    (lcc : K.lookup cc = some ⟨cl, cld, .cell (some (.ref C)), csl⟩) (X : K.In s.heap) (G : s.heap.Ns mainGlobals mg) (hsg : mg "super" = none) (Gb : s.heap.Ns builtinsNs mb) (hb : mb "super" = bootBuiltins "super")
    (hn : s.heap.Ns L m) (hv : m ar.arg = some (.ref x)) (hx : s.heap.get? x = some (excO C t0)) (hp : (params.posonlyargs ++ params.args).head? = some ar)
    (hks : scope.names.lookup ("super" : Str) = some .globalImplicit) (hkc : scope.names.lookup ("__class__" : Str) = some .free) (hka : scope.names.lookup ar.arg = some .local) (hk : scope.kind = .function)
    {pl : Sem Bool} (he : eval (.Call (.Attribute (.Call (.Name "super" p0) [] [] p1) "__init__" p2) [.Constant (.str text) j p3] [] p4) (ksEnv q scope L fI (.ref cda) cc) = (do
      let ov ← attributeBase (.Call (.Name "super" p0) [] [] p1) "__init__" (ksEnv q scope L fI (.ref cda) cc) (eval (.Call (.Name "super" p0) [] [] p1) (ksEnv q scope L fI (.ref cda) cc))
      standAt p2.atName
      let (f, first) ← holding [ov] (getMethod ov "__init__" pl)
      callWith p4 f first (backTo p4 (starEach [.Constant (.str text) j p3] (ksEnv q scope L fI (.ref cda) cc))) []))
    (hi : interactive (ksEnv q scope L fI (.ref cda) cc) = false) (hsw : swapsWith (.Call (.Attribute (.Call (.Name "super" p0) [] [] p1) "__init__" p2) [.Constant (.str text) j p3] [] p4) none p5.line (ksEnv q scope L fI (.ref cda) cc) = pure false)
    (hq : ∀ h' tk t1, h'.Ns L m → (∀ b o, b ≠ x → s.heap.get? b = some o → h'.get? b = some o) → h'.get? x = some (excO C t1) → Q .next { s with heap := h', toks := tk }) :
    _root_.PySem.wpAt (model prog w) A (.func body (ksEnv q scope L fI (.ref cda) cc)) (exec (supS text j p0 p1 p2 p3 p4 p5) (ksEnv q scope L fI (.ref cda) cc)) Q E s := by
  obtain ⟨nm, qn, N, bs, bm, sn, sub, ab, col, dd, k0, k1, k2, k3, k5, hC, hbm⟩ := T.x.cls
  have hcl : clsIn K C = some { name := nm, bases := bs, mro := .ref C :: bm, ns := N, qualname := qn, hasDict := true, slotNames := sn, subclasses := sub, abstract := ab, collection := col, hasDel := false } := by unfold clsIn; rw [hC] <;> rfl
  have hm := T.sup
  unfold ks_superIn at hm
  rw [hcl] at hm
  obtain ⟨hh, g, d, t, os⟩ := s
  refine ks_wpAt_Expr_any (ks_wpAt_MethodCall ?_ he) hi hsw
  refine ks_wpAt_super_base (env := ksEnv q scope L fI (.ref cda) cc) hks hkc rfl rfl (X _ _ lf) rfl hp rfl (X _ _ lc) rfl hvs hfile T.main ?_
  refine ks_loadName_global hk hks (loadGlobal_builtin (env := ksEnv q scope L fI (.ref cda) cc) G hsg Gb (hb.trans (by rfl)) ⟨rfl, ?_⟩)
  refine wpAny_loadName_free hk hkc rfl ⟨_, X _ _ lcc, rfl⟩ ?_
  refine wpAny_loadName_local hk hka hn hv ?_
  refine ks_wpAny_isType_cls (X _ _ hC) rfl ⟨rfl, ?_⟩
  refine ks_wpAny_call_super (X _ _ hC) rfl hx rfl (fun c e => by cases e) (looks_mroIn X T.own) (fun h' e k => ?_)
  have X' : K.In h' := X.keeps k
  have hI : Looks (model prog w) h' (isInstance (.ref x) (.type "ValueError")) true := (InstAt.type (⟨k _ _ hx, rfl, rfl, trivial⟩ : InstAt h' x (excO C t0) C none)).andThen (looks_subIn X' T.sub)
  have hxC : x ≠ C := fun z => by
    have e1 := X _ _ hC
    rw [← z, hx] at e1
    cases e1
  refine kxs_getMethod kxs_ValueError e (looks_opaque X' T.tp) (l₀ := .ref C :: bm) (fun A Q E s k q => wpAny_bind ((looks_clsIn X' hcl) A _ E s k (wpAny_pure q))) rfl X' hm hI hxC rfl ?_
  have hw : (h'.push (kxs_mw "ValueError.__init__" x)).get? h'.objs.size = some (kxs_mw "ValueError.__init__" x) := Heap.get?_push_at rfl rfl
  refine kxs_callWith (i := "ValueError.__init__") (x := x) rfl (evalArgs_plain (Calls.spliced_cons (wpAny_Constant_str (k := j) (pos := p3) (Calls.spliced_nil ⟨hw, ?_⟩))))
  refine bw_call ((X'.keeps fun b o e => Heap.get?_push_of_some _ e) _ _ hC) (Heap.get?_push_of_some _ (k _ _ hx)) hw (by rw [sizeLine_eq]; exact (by decide : 1 ≤ 16777216)) fun h3 t1 k3 hx3 => ?_
  obtain ⟨oL, es, ep, hL, r⟩ := hn
  have Lx : L ≠ x := fun z => by
    have e1 := hL
    rw [z] at e1
    have e2 := hx.symm.trans e1
    cases e2
    obtain ⟨hd, _⟩ := r
    cases hd
  exact hq h3 _ t1 ⟨oL, es, ep, k3 _ _ Lx (Heap.get?_push_of_some _ (k _ _ hL)), r⟩ (fun b o hb ho => k3 b o hb (Heap.get?_push_of_some _ (k b o ho))) hx3
end
/-- self.f = f, .. -/
inductive Sets : List Str → List Stmt → Prop
  | nil : Sets [] []
  | cons {f : Str} {fs : List Str} {ss : List Stmt} {q1 q2 q3 q4 : Pos} (r : Sets fs ss) : Sets (f :: fs) (setS f q1 q2 q3 q4 :: ss)
/-- an error that is being made: d its dict (none as yet), of mA; h0 the heap ahead of its making -/
def PartE (h0 h : Heap) (x C t1 : Addr) (mA : Str → Option Value) (ns : List Str) : Option Addr → Prop
  | none => h.get? x = some (excO C t1) ∧ (mA = fun _ => none) ∧ ns = []
  | some dx => h0.objs.size < dx ∧ dx ≠ x ∧ h.get? x = some { cls := .ref C, dict := some dx, data := .fields #[.ref t1, .none, .none, .none, .bool false, .none] } ∧ h.Ns1 dx mA ∧ Within mA ns
def putM : List Str → List Value → (Str → Option Value) → Str → Option Value
  | f :: fs, u :: us, mA => putM fs us (fun y => if y = f then some u else mA y)
  | _, _, mA => mA
section
variable {prog : Program} {w : World} {A : Around} {E : Value → Shared → Prop} {K : Frag} {C : Addr} {env : Env}
theorem kept_but {h h' : Heap} {x : Addr} (X : K.In h) (hx : K.lookup x = none) (k : ∀ b o, b ≠ x → h.get? b = some o → h'.get? b = some o) : K.In h' := fun a o e =>
  k a o (fun z => by rw [z, hx] at e; cases e) (X a o e)
theorem ns1_lt {h : Heap} {dx : Addr} {mA : Str → Option Value} (hn : h.Ns1 dx mA) : dx < h.objs.size := by
  obtain ⟨o, es, ep, ho, rr⟩ := hn
  exact Heap.lt_size ho
theorem sets_run (T : L2.OexC K C) {x t1 L : Addr} {m : Str → Option Value} {h0 : Heap} {Q : Flow → Shared → Prop} (hk : env.scope.kind = .function) (hL : env.locals = L) (hs0 : env.kindOf "self" = some .local) (hmx : m "self" = some (.ref x)) (hLx : L ≠ x) (hnx : K.lookup x = none) (hKl : ∀ a o, K.lookup a = some o → a < h0.objs.size) (hL0 : ∀ dx, h0.objs.size < dx → L ≠ dx) :
    ∀ {fs : List Str} {ss : List Stmt}, Sets fs ss → ∀ (us : List Value) (s : Shared) (d : Option Addr) (mA : Str → Option Value) (ns : List Str), us.length = fs.length → ns.length + fs.length ≤ 900 → (∀ f ∈ fs, env.kindOf f = some .local ∧ (f == ("__debug__" : Str)) = false ∧ findIn K (.ref C) f = some none) → (∀ p ∈ fs.zip us, m p.1 = some p.2) →
      h0.objs.size < s.heap.objs.size → K.In s.heap → s.heap.Ns L m → PartE h0 s.heap x C t1 mA ns d →
      (∀ h' tk d', (∀ b o, b ≠ x → h0.get? b = some o → s.heap.get? b = some o → h'.get? b = some o) → (fs = [] → d' = d) → (∀ z, d = some z → d' = some z) → (fs ≠ [] → d' ≠ none) → PartE h0 h' x C t1 (putM fs us mA) (fs.reverse ++ ns) d' → Q .next { s with heap := h', toks := tk }) →
      wpAny (model prog w) A (execs ss env) Q E s := by
  obtain ⟨nm, qn, N, bs, bm, sn, sub, ab, col, dd, k0, k1, k2, k3, k5, hC, hbm⟩ := T.cls
  have hcl : clsIn K C = some { name := nm, bases := bs, mro := .ref C :: bm, ns := N, qualname := qn, hasDict := true, slotNames := sn, subclasses := sub, abstract := ab, collection := col, hasDel := false } := by unfold clsIn; rw [hC] <;> rfl
  intro fs ss r
  induction r with
  | nil =>
    intro us s d mA ns hl hz hf hm hsz X hn hP hq
    obtain ⟨hp, g, dr, t, os⟩ := s
    have e : us = [] := List.length_eq_zero_iff.mp hl
    subst e
    exact wpAny_execs_nil (hq hp t d (fun b o _ _ h => h) (fun _ => rfl) (fun z h => h) (fun h => absurd rfl h) hP)
  | @cons f fs ss q1 q2 q3 q4 r ih =>
    intro us s d mA ns hl hz hf hm hsz X hn hP hq
    obtain ⟨hp, g, dr, t, os⟩ := s
    cases us with
    | nil => cases hl
    | cons u us =>
      obtain ⟨hf1, hf2, hf3⟩ := hf f (List.mem_cons_self ..)
      have hu : m f = some u := hm (f, u) (by show (f, u) ∈ (f, u) :: fs.zip us; exact List.mem_cons_self ..)
      refine wpAny_execs_cons (plainObj_wpAny_Assign_Attribute ?_ (by rfl))
      refine wpAny_Name (wpAny_loadName_local hk hf1 (by rw [hL]; exact hn) hu ?_) hf2
      refine wpAny_Name (wpAny_loadName_local hk hs0 (by rw [hL]; exact hn) hmx ?_) (by decide)
      have hl' : us.length = fs.length := Nat.succ.inj hl
      have hz' : (f :: ns).length + fs.length ≤ 900 := by simp only [List.length_cons] at hz ⊢; omega
      have hf' : ∀ g ∈ fs, env.kindOf g = some .local ∧ (g == ("__debug__" : Str)) = false ∧ findIn K (.ref C) g = some none := fun g hg => hf g (List.mem_cons_of_mem _ hg)
      have hm' : ∀ p ∈ fs.zip us, m p.1 = some p.2 := fun p hp => hm p (by show p ∈ (f, u) :: fs.zip us; exact List.mem_cons_of_mem _ hp)
      have er : (f :: fs).reverse ++ ns = fs.reverse ++ (f :: ns) := by simp
      cases d with
      | none =>
        obtain ⟨hx, rfl, rfl⟩ := hP
        refine set_plain X (ox := excO C t1) (od := none) ⟨hx, rfl, rfl, trivial⟩ T.sa ?_
        refine exc_osa X hx hcl (show refsVE (.ref C :: bm) = true from hbm) rfl hf3 (fun h3 tk3 dx k3' dn dne hx3 hn3 => ?_)
        have keepL : h3.Ns L m := by
          obtain ⟨oL, es, ep, hoL, rr⟩ := hn
          exact ⟨oL, es, ep, k3' _ _ hLx hoL, rr⟩
        refine ih us ⟨h3, g, dr, tk3, os⟩ (some dx) _ [f] hl' hz' hf' hm' ?_ ?_ keepL ⟨Nat.lt_of_lt_of_le hsz dn, dne, hx3, hn3, ?_⟩ ?_
        · exact Nat.lt_trans (Nat.lt_of_lt_of_le hsz dn) (ns1_lt hn3)
        · exact kept_but X hnx k3'
        · exact Within.cons f u (fun y hy => absurd rfl hy)
        · intro h4 tk4 d4 kk e1 e2 e3 hP4
          refine hq h4 tk4 d4 (fun b o hb h0 h1 => kk b o hb h0 (k3' b o hb h1)) (fun z => by cases z) (fun z h => by cases h) (fun _ z => by rw [e2 dx rfl] at z; cases z) ?_
          rw [er]
          exact hP4
      | some dx =>
        obtain ⟨hdx, dne, hx, hns, hw⟩ := hP
        obtain ⟨oD, esD, epD, hoD, rD⟩ := id hns
        refine set_plain X (ox := { cls := .ref C, dict := some dx, data := .fields #[.ref t1, .none, .none, .none, .bool false, .none] }) (od := some oD) ⟨hx, rfl, rfl, hoD⟩ T.sa ?_
        refine PySem.OEX.osa_old X hx hns hw (by simp only [List.length_cons] at hz; omega) hcl (show refsVE (.ref C :: bm) = true from hbm) rfl hf3 (fun h3 tk3 k3' hn3 => ?_)
        have keepL : h3.Ns L m := by
          obtain ⟨oL, es, ep, hoL, rr⟩ := hn
          exact ⟨oL, es, ep, k3' _ _ (hL0 dx hdx) hoL, rr⟩
        have hdK : K.lookup dx = none := by
          cases e : K.lookup dx with
          | none => rfl
          | some o => exact absurd (hKl _ _ e) (Nat.not_lt.mpr (Nat.le_of_lt hdx))
        refine ih us ⟨h3, g, dr, tk3, os⟩ (some dx) _ (f :: ns) hl' hz' hf' hm' ?_ ?_ keepL ⟨hdx, dne, k3' _ _ (Ne.symm dne) hx, hn3, ?_⟩ ?_
        · exact Nat.lt_trans hdx (ns1_lt hn3)
        · exact kept_but X hdK k3'
        · exact Within.cons f u hw
        · intro h4 tk4 d4 kk e1 e2 e3 hP4
          refine hq h4 tk4 d4 (fun b o hb h0 h1 => kk b o hb h0 (k3' b o (fun z => ?_) h1)) (fun z => by cases z) (fun z h => by cases h; exact e2 dx rfl) (fun _ z => by rw [e2 dx rfl] at z; cases z) ?_
          · rw [z] at h0
            exact absurd (Heap.lt_size h0) (Nat.not_lt.mpr (Nat.le_of_lt hdx))
          · rw [er]
            exact hP4
theorem lookup_mem {k : Str} {v : Value} : ∀ {l : List (Str × Value)}, (l.map (·.1)).Nodup → (k, v) ∈ l → l.lookup k = some v
  | [], _, h => by cases h
  | (a, b) :: l, hn, h => by
    rcases List.mem_cons.mp h with e | h
    · cases e
      simp [List.lookup]
    · have hne : (k == a) = false := by
        have h1 : a ∉ l.map (·.1) := (List.nodup_cons.mp hn).1
        have h2 : k ≠ a := fun z => h1 (by rw [← z]; exact List.mem_map.mpr ⟨_, h, rfl⟩)
        simpa using h2
      simp only [List.lookup, hne]
      exact lookup_mem (List.nodup_cons.mp hn).2 h
theorem lookup_rev {k : Str} {v : Value} {l : List (Str × Value)} (hn : (l.map (·.1)).Nodup) (h : (k, v) ∈ l) : l.reverse.lookup k = some v :=
  lookup_mem (by rw [List.map_reverse]; exact List.pairwise_reverse.mpr (hn.imp fun h => Ne.symm h)) (List.mem_reverse.mpr h)
/-- what the text of the __init__ is -/
structure IS (q : Str) (params : Arguments) (body : List Stmt) (scope : Scope) (fs : List Str) : Prop where
  bd : ∃ (text : Str) (j : Nat) (p0 p1 p2 p3 p4 p5 : Pos) (ss : List Stmt), body = supS text j p0 p1 p2 p3 p4 p5 :: ss ∧ Sets fs ss ∧
    (∀ (L fI cda cc : Addr), (∃ pl : Sem Bool, eval (.Call (.Attribute (.Call (.Name "super" p0) [] [] p1) "__init__" p2) [.Constant (.str text) j p3] [] p4) (ksEnv q scope L fI (.ref cda) cc) = (do
      let ov ← attributeBase (.Call (.Name "super" p0) [] [] p1) "__init__" (ksEnv q scope L fI (.ref cda) cc) (eval (.Call (.Name "super" p0) [] [] p1) (ksEnv q scope L fI (.ref cda) cc))
      standAt p2.atName
      let (f, first) ← holding [ov] (getMethod ov "__init__" pl)
      callWith p4 f first (backTo p4 (starEach [.Constant (.str text) j p3] (ksEnv q scope L fI (.ref cda) cc))) [])) ∧
      interactive (ksEnv q scope L fI (.ref cda) cc) = false ∧ swapsWith (.Call (.Attribute (.Call (.Name "super" p0) [] [] p1) "__init__" p2) [.Constant (.str text) j p3] [] p4) none p5.line (ksEnv q scope L fI (.ref cda) cc) = pure false)
  bind : ∀ (kV doc pm : Value) (an : Option Addr) (cda : Addr) (ct : Value) (cc : Addr) (us : List Value), us.length = ("self" :: fs : List Str).length → bindArgs (ksFn "__init__" q params body scope .none kV doc pm an (.ref cda) ct cc) ⟨us, []⟩ = pure (("self" :: fs : List Str).zip us)
  hd : ∃ ar : Arg, (params.posonlyargs ++ params.args).head? = some ar ∧ ar.arg = "self"
  nd : ("self" :: fs : List Str).Nodup
  loc : ∀ f ∈ ("self" :: fs : List Str), scope.names.lookup f = some .local ∧ (f == ("__debug__" : Str)) = false
  cell : ∀ x ∈ scope.names, x.2 ≠ .cell
  co : scope.isCoroutine = false
  gen : scope.isGenerator = false
  k : scope.kind = .function
  hks : scope.names.lookup ("super" : Str) = some .globalImplicit
  hkc : scope.names.lookup ("__class__" : Str) = some .free
  few : fs.length ≤ 900
  some_ : fs ≠ []
theorem err_init {R : Result → Shared → Prop} {s : Shared} {fI : Addr} {q : Str} {params : Arguments} {body : List Stmt} {scope : Scope} {fs : List Str} {mg mb : Str → Option Value} (T : ErC prog K C fI q params body scope) (S : IS q params body scope fs) (hno : ∀ f ∈ fs, findIn K (.ref C) f = some none) {x t0 : Addr} {us : List Value} (X : K.In s.heap) (hlim : s.heap.NoLimit)
    (hx : s.heap.get? x = some (excO C t0)) (hnx : K.lookup x = none) (G : s.heap.Ns mainGlobals mg) (Gb : s.heap.Ns builtinsNs mb) (hb : mb "super" = bootBuiltins "super") (hroom : A.depth < recursionLimit) (hl : us.length = fs.length)
    (hq : ∀ h' tk t1 d, (∀ b o, b ≠ x → s.heap.get? b = some o → h'.get? b = some o) → PartE s.heap h' x C t1 (putM fs us (fun _ => none)) (fs.reverse ++ []) (some d) → R (.ok (.ret .none)) { s with heap := h', toks := tk }) :
    codeAny (model prog w) A (.call (.ref fI) ⟨.ref x :: us, []⟩) R s := by
  obtain ⟨oc, od, kV, doc, pm, an, cda, ct, cc, osl, ccl, cdd, vs, ccs, file, tf, cl, cld, csl, lf, hcd, lc, hvs, hfile, lcc⟩ := T.fn
  obtain ⟨text, j, p0, p1, p2, p3, p4, p5, ss, eb, hss, hev⟩ := S.bd
  obtain ⟨ar, har, earg⟩ := S.hd
  have hKl : ∀ a o, K.lookup a = some o → a < s.heap.objs.size := fun a o e => Heap.lt_size (X _ _ e)
  have hkeys : ((("self" :: fs : List Str).zip (.ref x :: us)).map (·.1)).Nodup := by
    rw [List.map_fst_zip (by show fs.length + 1 ≤ us.length + 1; omega)]
    exact S.nd
  obtain ⟨⟨pl, he⟩, hi, hsw⟩ := hev s.heap.objs.size fI cda cc
  have hmg : mg "super" = none := PySem.W.mg_none_of X G T.sg
  refine ks_codeAny_call_defAt (fd := ksFn "__init__" q params body scope .none kV doc pm an (.ref cda) ct cc) (body := body) (binds := ("self" :: fs : List Str).zip (.ref x :: us)) hroom (X _ _ lf) rfl hlim (codeRec_of X hcd) rfl
    (BindsTo.of_eq (S.bind _ _ _ _ _ _ _ _ (by show us.length + 1 = fs.length + 1; omega))) S.cell (fun y hy => (S.loc y.1 (by
      obtain ⟨y1, y2⟩ := y
      exact (List.of_mem_zip hy).1)).1) (fun h₁ hns hk₁ => ?_) S.co S.gen S.k
  have X₁ : K.In h₁ := X.keeps hk₁
  have hself : (("self" :: fs : List Str).zip (Value.ref x :: us)).reverse.lookup ("self" : Str) = some (Value.ref x) := lookup_rev hkeys (by show _ ∈ (("self" : Str), Value.ref x) :: fs.zip us; exact List.mem_cons_self ..)
  show _root_.PySem.wpAt _ _ (.func body (ksEnv q scope s.heap.objs.size fI (.ref cda) cc)) (execs body (ksEnv q scope s.heap.objs.size fI (.ref cda) cc)) _ _ _
  subst eb
  refine ks_wpAt_execs_cons ?_
  refine sup_stmt T lf lc hvs hfile lcc X₁ (G.at fun o q => hk₁ _ _ q) hmg (Gb.at fun o q => hk₁ _ _ q) hb hns (ar := ar) (by rw [earg]; exact hself) (hk₁ _ _ hx) har S.hks S.hkc (by rw [earg]; exact (S.loc "self" (List.mem_cons_self ..)).1) S.k he hi hsw (fun h2 tk2 t1 hns2 k2 hx2 => ?_)
  refine wpAt_of_wpAny ?_
  have L1 : s.heap.objs.size < h₁.objs.size := hns.lt
  refine sets_run (env := ksEnv q scope s.heap.objs.size fI (.ref cda) cc) (h0 := s.heap) T.x S.k rfl (S.loc "self" (List.mem_cons_self ..)).1 hself (Nat.ne_of_gt (Heap.lt_size hx)) hnx hKl (fun dx h => Nat.ne_of_lt h) hss us _ none (fun _ => none) [] hl (by simpa using S.few) (fun f hf => ⟨(S.loc f (List.mem_cons_of_mem _ hf)).1, (S.loc f (List.mem_cons_of_mem _ hf)).2, hno f hf⟩)
    (fun p hp => lookup_rev hkeys (by show p ∈ (("self" : Str), Value.ref x) :: fs.zip us; exact List.mem_cons_of_mem _ hp)) ?_ (kept_but X₁ hnx k2) hns2 ⟨hx2, rfl, rfl⟩ ?_
  · exact hns2.lt
  · intro h' tk d' kk e1 e2 e3 hP
    cases d' with
    | none => exact absurd rfl (e3 S.some_)
    | some d => exact hq h' tk t1 d (fun b o hb h0 => kk b o hb h0 (k2 b o hb (hk₁ b o h0))) hP
/-- C(u, ..): what is left -/
structure Made (h h' : Heap) (e C d : Addr) (mA : Str → Option Value) : Prop where
  keep : ∀ b o, h.get? b = some o → h'.get? b = some o
  new : h.objs.size ≤ e
  obj : ∃ oe vs, h'.get? e = some oe ∧ oe.cls = .ref C ∧ oe.dict = some d ∧ oe.data = .fields vs ∧ vs[1]? = some .none ∧ vs[2]? = some .none ∧ 4 < vs.size
  dbig : h.objs.size ≤ d
  dne : d ≠ e
  ns : h'.Ns1 d mA
theorem err_made {R : Result → Shared → Prop} {s : Shared} {fI : Addr} {q : Str} {params : Arguments} {body : List Stmt} {scope : Scope} {fs : List Str} {mg mb : Str → Option Value} (T : ErC prog K C fI q params body scope) (S : IS q params body scope fs) (hno : ∀ f ∈ fs, findIn K (.ref C) f = some none) {us : List Value} (X : K.In s.heap) (hlim : s.heap.NoLimit)
    (G : s.heap.Ns mainGlobals mg) (Gb : s.heap.Ns builtinsNs mb) (hb : mb "super" = bootBuiltins "super") (hroom : A.depth + 1 < recursionLimit) (hl : us.length = fs.length)
    (hq : ∀ h' tk e d, Made s.heap h' e C d (putM fs us (fun _ => none)) → R (.ok (.ret (.ref e))) { s with heap := h', toks := tk }) :
    codeAny (model prog w) A (.call (.ref C) ⟨us, []⟩) R s := by
  obtain ⟨nm, qn, N, bs, bm, sn, sub, ab, col, dd, k0, k1, k2, k3, k5, hC, hbm⟩ := T.x.cls
  obtain ⟨hp, g, dr, tk, os⟩ := s
  have k : ∀ b o, hp.get? b = some o → ((hp.push (kdv_tup us)).push (excO C hp.objs.size)).get? b = some o := fun b o e => Heap.get?_push_of_some _ (Heap.get?_push_of_some _ e)
  have hget : ((hp.push (kdv_tup us)).push (excO C hp.objs.size)).get? (hp.objs.size + 1) = some (excO C hp.objs.size) := by heap_get
  have hnx : K.lookup (hp.objs.size + 1) = none := by
    cases e : K.lookup (hp.objs.size + 1) with
    | none => rfl
    | some o =>
      have z : hp.get? (hp.objs.size + 1) = some o := X _ _ e
      exact absurd (Nat.lt_of_succ_lt (Heap.lt_size z)) (Nat.lt_irrefl _)
  refine call_own PySem.F.excBase_ValueError (fun X => refsVE_contains X bm hbm) (X _ _ hC) (looks_findIn X T.iC) (fun self => bind_fn X self T.tC) (by rw [hl, sizeLine_eq]; exact Nat.le_trans S.few (by decide)) ?_
  refine err_init (s := ⟨(hp.push (kdv_tup us)).push (excO C hp.objs.size), g, dr, tk, os⟩) T S hno (X.keeps k) (hlim.keeps k) hget hnx (G.at fun o q => k _ _ q) (Gb.at fun o q => k _ _ q) hb ?_ hl fun h' tk' t1 d k' hP => ?_
  · show A.depth + 1 < recursionLimit
    exact hroom
  · obtain ⟨hd, dne, hx, hns, _⟩ := hP
    have old : ∀ b o, hp.get? b = some o → h'.get? b = some o := fun b o e => k' b o (Nat.ne_of_lt (Nat.lt_succ_of_lt (Heap.lt_size e))) (k b o e)
    have z : hp.objs.size + 1 + 1 < d := by
      have q := hd
      first
        | (simpa only [Heap.size_push] using q)
        | exact q
    have z2 : hp.objs.size ≤ d := by omega
    exact ⟨rfl, hq h' tk' (hp.objs.size + 1) d ⟨old, Nat.le_succ _, ⟨_, _, hx, rfl, rfl, rfl, rfl, rfl, Nat.lt_succ_of_lt (Nat.lt_succ_self 4)⟩, z2, dne, hns⟩⟩
end
end OwnE
end PySem
namespace Gl
open PySem PySem.Spec PyProof.Rows L2
open PySem.OwnE (ErC IS putM)
/-- an error's dict: the fields, stored one behind another -/
def putL : List Str → List V → List (Str × V) → List (Str × V)
  | f :: fs, v :: vs, l => putL fs vs ((f, v) :: l)
  | _, _, l => l
theorem relO_putL : ∀ {fs : List Str} {vs : List V} {us : List Value} {l : List (Str × V)} {mA : Str → Option Value}, Vals vs us → (∀ g, RelO (l.lookup g) (mA g)) → ∀ g, RelO ((putL fs vs l).lookup g) (putM fs us mA g)
  | [], _, _, _, _, _, h => by
    intro g
    unfold putL putM
    exact h g
  | f :: fs, _, _, l, mA, .nil, h => by
    intro g
    unfold putL putM
    exact h g
  | f :: fs, _, _, l, mA, .cons r rs, h => relO_putL (fs := fs) rs (relO_put r h)
/-- C(e, ..) of an own error class: its dict is new -/
def tErr (C : Addr) (fs : List Str) (ta : TA) : L2.St → Hp → XK → Prop := fun σ H Q => ta σ H fun vs H1 => vs.length = fs.length ∧ ∀ d, H1 d = none → Q (.ref C) (some d) (upd H1 d (.xd (putL fs vs [])))
section
variable {X : Cx} {C fI : Addr} {q : Str} {params : Arguments} {body : List Stmt} {scope : Scope} {fs : List Str}
theorem pmk_err {x : Str} {a : Expr} {as : List Expr} {ta : TA} {p pos : Pos} {k : Nat} (T : ErC X.prog X.K C fI q params body scope) (S : IS q params body scope fs) (hno : ∀ f ∈ fs, PySem.W.findIn X.K (.ref C) f = some none) (gC : X.mg x = some (.ref C)) (kC : PySem.W.keepIn X.K (.ref C) = true) (hr : Room (k + 1) X.A) (hg : Gl X x)
    (ha : PA X (a :: as) ta) (hdb : (x == ("__debug__" : Str)) = false := by decide)
    (he : starEach (a :: as) X.env = (false, eval a X.env) :: starEach as X.env := by rfl) (hpl : (backTo pos (starEach as X.env)).any (·.1) = false := by rfl) :
    PMk X (.Call (.Name x p) (a :: as) [] pos) (tErr C fs ta) := by
  intro pins s σ H Q I h
  refine wpAny_Call_Name_kw (ld_glob I hg gC ?_ hdb)
  refine PySem.W.callWith_K (h₀ := X.base) I.ok.mod.kin kC (thn (ha.run pos pins s σ H _ I h) fun us s1 hh => ?_) he hpl
  obtain ⟨vs, H1, I1, r1, hl, q1⟩ := hh
  refine ⟨I1.kIn, ?_⟩
  show wpAny _ _ (call (.ref C) us) _ _ _
  have hlim := I1.nolimit
  obtain ⟨mb, Gb, hmb⟩ := I1.ok.mod.blt
  have hG : s1.heap.Ns mainGlobals X.mg := I1.ok.mod.glob.keeps I1.bk
  have hB : s1.heap.Ns builtinsNs mb := Gb.keeps I1.bk
  obtain ⟨hp, g, dr, tk, os⟩ := s1
  refine wpAny_call (PySem.OwnE.err_made T S hno I1.kIn hlim hG hB (hmb _ (by decide)) (by have := hr.dp; omega) (by rw [← r1.length]; exact hl) fun h' tk' e d M => ?_)
  show MkP X pins σ Q (.ref e) ⟨h', g, dr, tk', os⟩
  obtain ⟨oe, fv, hoe, hc, hd, hdat, h1, _, _⟩ := M.obj
  have hns := M.ns
  obtain ⟨G', g1, g2⟩ := restrict h' fun b => decide (b ≠ e)
  have gk : ∀ b, b ≠ e → G'.get? b = h'.get? b := fun b hb => g1 b (decide_eq_true hb)
  have ge : G'.get? e = none := g2 e (by simp)
  have old : ∀ b o, hp.get? b = some o → G'.get? b = some o := fun b o q => (gk b (Nat.ne_of_lt (Nat.lt_of_lt_of_le (Heap.lt_size q) M.new))).trans (M.keep b o q)
  have ob : ObjOk X.prog X.w (upd H1 d (.xd (putL fs vs []))) G' d (.xd (putL fs vs [])) :=
    ⟨_, hns.at (fun o q => (gk d M.dne).trans q), relO_putL r1 fun g => trivial⟩
  have J : Inv X pins σ (upd H1 d (.xd (putL fs vs []))) ⟨G', g, dr, tk', os⟩ := I1.laid (t' := tk') old M.dbig ob
  refine ⟨e, oe, fv, ⟨G', g, dr, tk', os⟩, _, .ref C, some d, rfl, J, fun b o q => ?_, ge, hoe, ⟨hc, hd⟩, hdat, h1, ?_, rfl, I1.bare, raises_own T.x.exC T.x.tyC, q1 d (I1.hok.fresh M.dbig)⟩
  · by_cases hb : b = e
    · have q' : G'.get? b = some o := q
      rw [hb, ge] at q'; cases q'
    · exact (gk b hb).symm.trans q
  · rw [upd_ne (Ne.symm M.dne)]
    exact I1.hok.fresh M.new
end
end Gl
namespace Gl
open PySem PySem.Spec PyProof.Rows L2
open PySem.OwnE (ErC IS putM)
open He (ga ma)
/-! ## own errors: what the head says of them -/
def ccOf (K : PySem.W.Frag) (x : Str) : Addr := match K.lookup (ma K (ga K x) "__init__") with
  | some ⟨_, _, .func fd, _⟩ => (match fd.closure with
    | [p] => p.2
    | _ => 0)
  | _ => 0
def clsE (K : PySem.W.Frag) (C : Addr) : Bool := match K.lookup C with
  | some ⟨.type t, _, .cls cd, sl⟩ => decide (t = "type") && ((match cd.mro, sl.toList with
    | .ref C' :: bm, [_, _, _, _, some (.builtin n), _] => decide (C' = C) && (decide (n = "ValueError.__new__") && (!cd.hasDel && (cd.hasDict && PySem.HandSPX.refsVE bm)))
    | _, _ => false))
  | _ => false
theorem clsE_ok {K : PySem.W.Frag} {C : Addr} (h : clsE K C = true) : ∃ nm q N bs bm sn sub ab col dd k0 k1 k2 k3 k5, K.lookup C = some (excClassObj nm q C N bs bm true sn sub ab col dd k0 k1 k2 k3 k5 "ValueError.__new__") ∧ PySem.HandSPX.refsVE bm = true := by
  unfold clsE at h
  split at h
  · rename_i t dd cd sl ho
    obtain ⟨h0, h⟩ := He.ba h
    split at h
    · rename_i C' bm k0 k1 k2 k3 n k5 hm hs
      obtain ⟨h1, h⟩ := He.ba h
      obtain ⟨h2, h⟩ := He.ba h
      obtain ⟨h3, h⟩ := He.ba h
      obtain ⟨h4, h5⟩ := He.ba h
      have e1 := of_decide_eq_true h1
      have e2 := of_decide_eq_true h2
      have e0 := of_decide_eq_true h0
      subst e1 e2 e0
      obtain ⟨nm, bs, mro, ns, qn, hd, sn, sub, ab, col, del⟩ := cd
      dsimp only at hm h3 h4
      have h3' : del = false := by simpa using h3
      subst hm h3' h4
      have hsl : sl = #[k0, k1, k2, k3, some (.builtin "ValueError.__new__"), k5] := by
        obtain ⟨l⟩ := sl
        simp only at hs
        rw [hs]
      subst hsl
      exact ⟨_, _, _, _, _, _, _, _, _, _, _, _, _, _, _, ho, h5⟩
    · cases h
  · cases h
def fnE (P : Program) (K : PySem.W.Frag) (x q : Str) : Bool := match K.lookup (ma K (ga K x) "__init__") with
  | some ⟨_, _, .func fd, _⟩ => PySem.W.codeIn K fd.code q && ((decide (fd.defaults = .none)) && (match fd.code with
    | .ref cda => (match K.lookup cda with
      | some ⟨_, _, .fields vs, _⟩ => (match (vs[2]? : Option Value) with
        | some (Value.str file _) => ((P.main.file : Str) == file)
        | _ => false)
      | _ => false)
    | _ => false) && (match K.lookup (ccOf K x) with
      | some ⟨_, _, .cell (some (.ref D)), _⟩ => decide (D = ga K x)
      | _ => false))
  | _ => false
def errB (P : Program) (K : PySem.W.Frag) (x q : Str) (fs : List Str) : Bool :=
  clsE K (ga K x) && (He.eqO (PySem.W.findIn K (.ref (ga K x)) "__setattr__") (some (some (.builtin "object.__setattr__"))) && (decide (PySem.W.subIn K (.ref (ga K x)) (.type "BaseException") = some true) && (decide (PySem.W.typeIn K (.ref (ga K x)) = some (.type "type")) && (PySem.W.keepIn K (.ref (ga K x)) &&
  (He.eqO (PySem.W.findIn K (.ref (ga K x)) "__init__") (some (some (.ref (ma K (ga K x) "__init__")))) && (decide (PySem.W.typeIn K (.ref (ma K (ga K x) "__init__")) = some (.type "function")) && (He.eqO (PySem.W.ks_superIn K (ga K x) (ga K x) "__init__") (some (some (.builtin "ValueError.__init__"))) &&
  (decide (PySem.W.subIn K (.ref (ga K x)) (.type "ValueError") = some true) && (decide (PySem.W.mroIn K (ga K x) (.ref (ga K x)) = some true) && (He.eqO (PySem.W.nsIn K cStatics "thirdparty.any") (some none) && (He.eqO (PySem.W.nsIn K mainGlobals "super") (some none) && (!(P.main.scope.names.lookup ("super" : Str)).isSome &&
  (fs.all (fun f => He.eqO (PySem.W.findIn K (.ref (ga K x)) f) (some none)) && (fnE P K x q &&
  (He.eqO (PySem.W.findIn K (.ref (ga K x)) "__getattribute__") (some (some (.builtin "BaseException.__getattribute__"))) && (He.eqO (PySem.W.findIn K (.ref (ga K x)) "__getattr__") (some none) && (PySem.W.hasDictIn K (ga K x) && He.eqO (PySem.W.nsIn K mainGlobals x) (some (some (.ref (ga K x)))))))))))))))))))))
/-- what is known of the own error class x -/
structure Er (P : Program) (K : PySem.W.Frag) (mg : Str → Option Value) (x q : Str) (params : Arguments) (body : List Stmt) (scope : Scope) (fs : List Str) : Prop where
  c : ErC P K (ga K x) (ma K (ga K x) "__init__") q params body scope
  no : ∀ f ∈ fs, PySem.W.findIn K (.ref (ga K x)) f = some none
  xf : XfC K (ga K x)
  g : mg x = some (.ref (ga K x))
  k : PySem.W.keepIn K (.ref (ga K x)) = true
theorem er_ok {P : Program} {K : PySem.W.Frag} {h : Heap} {mg : Str → Option Value} {x q : Str} {params : Arguments} {body : List Stmt} {scope : Scope} {fs : List Str} (X : K.In h) (G : h.Ns mainGlobals mg) (c : errB P K x q fs = true)
    (e : He.fnW K (x, some "__init__") = some (("__init__" : Str), q, params, FuncBody.stmts body, scope, mainGlobals, [(("__class__" : Str), ccOf K x)], builtinsNs)) : Er P K mg x q params body scope fs := by
  unfold errB at c
  obtain ⟨c1, c⟩ := He.ba c
  obtain ⟨c2, c⟩ := He.ba c
  obtain ⟨c3, c⟩ := He.ba c
  obtain ⟨c4, c⟩ := He.ba c
  obtain ⟨c5, c⟩ := He.ba c
  obtain ⟨c6, c⟩ := He.ba c
  obtain ⟨c7, c⟩ := He.ba c
  obtain ⟨c8, c⟩ := He.ba c
  obtain ⟨c9, c⟩ := He.ba c
  obtain ⟨c10, c⟩ := He.ba c
  obtain ⟨c11, c⟩ := He.ba c
  obtain ⟨c12, c⟩ := He.ba c
  obtain ⟨c13, c⟩ := He.ba c
  obtain ⟨c14, c⟩ := He.ba c
  obtain ⟨c15, c⟩ := He.ba c
  obtain ⟨c16, c⟩ := He.ba c
  obtain ⟨c17, c⟩ := He.ba c
  obtain ⟨c18, c19⟩ := He.ba c
  have d3 := of_decide_eq_true c3
  have d4 := of_decide_eq_true c4
  refine ⟨⟨⟨clsE_ok c1, He.eqO_ok c2, d3, d4, c5⟩, He.eqO_ok c6, of_decide_eq_true c7, He.eqO_ok c8, of_decide_eq_true c9, of_decide_eq_true c10, He.eqO_ok c11, He.eqO_ok c12, by simpa using c13, ?_⟩,
    fun f hf => He.eqO_ok (List.all_eq_true.mp c14 f hf), ⟨He.eqO_ok c16, He.eqO_ok c17, d3, c18⟩, PySem.W.mg_of X G (He.eqO_ok c19), c5⟩
  unfold fnE at c15
  unfold He.fnW at e
  have ea : He.fAd K (x, some "__init__") = ma K (ga K x) "__init__" := rfl
  rw [ea] at e
  cases hl : K.lookup (ma K (ga K x) "__init__") with
  | none =>
    rw [hl] at e
    cases e
  | some o =>
    obtain ⟨oc, od, dt, osl⟩ := o
    rw [hl] at c15 e
    cases dt with
    | func fd =>
      obtain ⟨n1, n2, n3, n4, n5, n6, n7, n8, n9, n10, n11, n12, n13, n14, n15⟩ := fd
      have e2 : (some (n1, n2, n3, n4, n5, n6, n7, n15) : He.FnW) = some (("__init__" : Str), q, params, FuncBody.stmts body, scope, mainGlobals, [(("__class__" : Str), ccOf K x)], builtinsNs) := e
      simp only [Option.some.injEq, Prod.mk.injEq] at e2
      obtain ⟨h1, h2, h3, h4, h5, h6, h7, h8⟩ := e2
      subst h1 h2 h3 h4 h5 h6 h7 h8
      dsimp only at c15
      obtain ⟨k1, k2⟩ := He.ba c15
      obtain ⟨k3, k4⟩ := He.ba k2
      obtain ⟨k0, k3⟩ := He.ba k3
      have k0 : n8 = Value.none := of_decide_eq_true k0
      subst k0
      cases n13 with
      | ref cda =>
        dsimp only at k3
        cases hc : K.lookup cda with
        | none =>
          rw [hc] at k3
          cases k3
        | some oc2 =>
          obtain ⟨ccl, cdd, cdt, ccs⟩ := oc2
          rw [hc] at k3
          cases cdt with
          | fields vs =>
            dsimp only at k3
            cases hv : vs[2]? with
            | none =>
              rw [hv] at k3
              cases k3
            | some v =>
              rw [hv] at k3
              cases v with
              | str file tf =>
                cases hcc : K.lookup (ccOf K x) with
                | none =>
                  rw [hcc] at k4
                  cases k4
                | some o3 =>
                  obtain ⟨cl, cld, cdt3, csl⟩ := o3
                  rw [hcc] at k4
                  cases cdt3 with
                  | cell u =>
                    cases u with
                    | none => cases k4
                    | some u =>
                      cases u with
                      | ref D =>
                        have eD : D = ga K x := of_decide_eq_true k4
                        rw [eD] at hcc
                        exact ⟨oc, od, n9, n10, n11, n12, cda, n14, ccOf K x, osl, ccl, cdd, vs, ccs, file, tf, cl, cld, csl, rfl, k1, hc, hv, k3, hcc⟩
                      | _ => cases k4
                  | _ => cases k4
              | _ => cases k3
          | _ => cases k3
      | _ => cases k3
    | _ => cases c15
end Gl
namespace Gl
open PySem PySem.Spec PyProof.Rows L2
/-! ## options as data -/
/-- a datum that is not None -/
class NotNone {α : Type} {A : R α} (D : Dat A) : Prop where
  l : ∀ a, PyData.eqv (D.d a) .none = false
  r : ∀ a, PyData.eqv .none (D.d a) = false
instance : NotNone dI := ⟨fun _ => rfl, fun _ => rfl⟩
instance : NotNone dB := ⟨fun _ => rfl, fun _ => rfl⟩
instance : NotNone dS := ⟨fun _ => rfl, fun _ => rfl⟩
instance {α : Type} {A : R α} {D : Dat A} : NotNone (dL D) := ⟨fun _ => rfl, fun _ => rfl⟩
instance {α : Type} {A : R α} {D : Dat A} : NotNone (dT D) := ⟨fun _ => rfl, fun _ => rfl⟩
instance {α β : Type} {A : R α} {B : R β} {D : Dat A} {E : Dat B} : NotNone (d2 D E) := ⟨fun _ => rfl, fun _ => rfl⟩
def dO {α : Type} {A : R α} (D : Dat A) [N : NotNone D] : Dat (qO A) := ⟨fun
    | none => .none
    | some a => D.d a, fun {K F v a} h => by
    cases a with
    | none => cases (show v = .non from h); exact .non
    | some a => exact D.dp h, fun a b => by
    cases a with
    | none => cases b with
      | none => simp [PyData.eqv]
      | some b =>
        show PyData.eqv .none (D.d b) = true ↔ _
        rw [N.r b]; simp
    | some a => cases b with
      | none =>
        show PyData.eqv (D.d a) .none = true ↔ _
        rw [N.l a]; simp
      | some b =>
        show PyData.eqv (D.d a) (D.d b) = true ↔ _
        rw [D.eq]; simp⟩

/-! ## o.m(..), whatever class o is of: the answer names it -/
def MOk (X : Cx) (m : Str) (C : Addr) (sp : Sp) (E : XK) : Prop := ∃ (f : Addr) (k : Nat) (fd : FuncData) (ps : List Str) (CX : CXT), Cls X.K C ∧ Meth X.K C m f ∧ FnOk X.prog X.w X.K X.mg X.base CX k f fd ps sp ∧ Room k X.A ∧ Binds X.K fd ps [] ∧ Passes CX X E
def mvK (X : Cx) (m : Str) (E : XK) (t : (List V → Hp → Prop) → Hp → Prop) (Q : VK) : VK := fun x H1 => ∃ a dx fs C sp, x = .ref a ∧ H1 a = some (.ins C dx fs) ∧ fs.lookup m = none ∧ MOk X m C sp E ∧ t (fun vs H2 => sp (x :: vs) H2 Q E) H1
def tMethV (X : Cx) (m : Str) (E : XK) (ta : TE) (t : TA) : TE := fun σ H Q => ta σ H (mvK X m E (fun q H1 => t σ H1 q) Q)
section
variable {X : Cx} {o e : Expr} {es : List Expr} {m : Str} {ta : TE} {t : TA} {E : XK} {apos pos : Pos}
theorem pe_methV0 {pl : Sem Bool} (he : PE X o ta)
    (ht : eval (.Call (.Attribute o m apos) [] [] pos) X.env = (do
      let ov ← eval o X.env
      standAt apos.atName
      let (f, first) ← holding [ov] (getMethod ov m pl)
      callWith pos f first (backTo pos (starEach [] X.env)) (backToKw pos (keywordEach [] X.env))) := by rfl) :
    PE X (.Call (.Attribute o m apos) [] [] pos) (tMethV X m E ta tNil) := by
  refine ⟨fun pins s σ H Q I h => ?_⟩
  refine PySem.W.methodCall_KW (pl := pl) (thn (he.run pins s σ H _ I h) fun u s1 ⟨x, H1, I1, rx, a, dx, fs, C, sp, ex, ea, l, ⟨f, k, fd, ps, CX, c, hm, F, hr, hb, hx⟩, q⟩ => ?_) ht
  subst ex
  obtain rfl : u = Value.ref a := rx
  refine getmeth_ok I1 ea c hm l ?_
  exact PySem.W.callWith_K0 (first := [.ref a]) I1.kIn hm.kp (run_fn (us := [.ref a]) (vs := [.ref a]) (dvs := []) (ds := []) F hr hb .nil hx I1 (.cons rfl .nil) q)
theorem rd_methV {σ : L2.St} {H : Hp} {Q : VK} (k : ta σ H (mvK X m E (fun q H1 => t σ H1 q) Q)) : tMethV X m E ta t σ H Q := k
end
/-! ## patterns -/
inductive Pat where
  | form (ps : List Str) | both (l r : Pat) | either (l r : Pat)
  deriving DecidableEq
def Pat.forms : Pat → List (List Str)
  | .form ps => [ps]
  | .both l r => l.forms ++ r.forms
  | .either l r => l.forms ++ r.forms
def Pat.ht : Pat → Nat
  | .form _ => 0
  | .both l r => max l.ht r.ht + 1
  | .either l r => max l.ht r.ht + 1
/-- what a class must show for & | of its own -/
def ownOpB (K : PySem.W.Frag) (x : Str) (nm : String) (f : Addr) : Bool := PySem.W.selfFirst K (He.ga K x) && (He.eqO (PySem.W.findIn K (.ref (He.ga K x)) (PySem.dunder nm)) (some (some (.ref f))) && (PySem.W.isFn K (.ref f) && He.eqO (PySem.W.findIn K (.ref (He.ga K x)) (dunderR nm)) (some none)))
theorem ownOpB_ok {K : PySem.W.Frag} {x : Str} {nm : String} {f : Addr} (h : ownOpB K x nm f = true) : OwnOp K (He.ga K x) nm f := by
  unfold ownOpB at h
  obtain ⟨h1, h⟩ := He.ba h
  obtain ⟨h2, h⟩ := He.ba h
  obtain ⟨h3, h4⟩ := He.ba h
  exact ⟨h1, He.eqO_ok h2, h3, He.eqO_ok h4⟩
/-- classes x and y: the same, or y is not below x -/
def apartB (K : PySem.W.Frag) (x y : Str) : Bool := decide (He.ga K x = He.ga K y) || decide (PySem.W.subIn K (.ref (He.ga K y)) (.ref (He.ga K x)) = some false)
theorem apartB_ok {K : PySem.W.Frag} {x y : Str} (h : apartB K x y = true) : He.ga K x = He.ga K y ∨ PySem.W.subIn K (.ref (He.ga K y)) (.ref (He.ga K x)) = some false := by
  unfold apartB at h
  rcases Bool.or_eq_true_iff.mp h with h | h
  · exact .inl (of_decide_eq_true h)
  · exact .inr (of_decide_eq_true h)
def isaB (K : PySem.W.Frag) (x y : Str) (b : Bool) : Bool := decide (PySem.W.kitOne K (.ref (He.ga K x)) (.ref (He.ga K y)) = some b)
theorem isaB_ok {K : PySem.W.Frag} {x y : Str} {b : Bool} (h : isaB K x y b = true) : PySem.W.kitOne K (.ref (He.ga K x)) (.ref (He.ga K y)) = some b := of_decide_eq_true h

def qForm : R (List Str) := ⟨fun K F v a => ∃ (p dx : Addr) (u0 : V), v = .ref p ∧ F p = some (.ins (He.ga K "Form") dx [("pieces", u0)]) ∧ (qT qS).r K F u0 a, fun e ⟨p, dx, u0, h1, h2, k0⟩ => ⟨p, dx, u0, h1, e _ _ h2, (qT qS).mono e k0⟩⟩
def qPatR (K : PySem.W.Frag) (F : Hp) : V → Pat → Prop
  | v, .form ps => qForm.r K F v ps
  | v, .both l r => ∃ (p dx : Addr) (u w : V), v = .ref p ∧ F p = some (.ins (He.ga K "Both") dx [("left", u), ("right", w)]) ∧ qPatR K F u l ∧ qPatR K F w r
  | v, .either l r => ∃ (p dx : Addr) (u w : V), v = .ref p ∧ F p = some (.ins (He.ga K "Either") dx [("left", u), ("right", w)]) ∧ qPatR K F u l ∧ qPatR K F w r
theorem qPatR_mono {K : PySem.W.Frag} {F F' : Hp} (e : Same F F') : ∀ {v : V} {a : Pat}, qPatR K F v a → qPatR K F' v a
  | _, .form _, h => qForm.mono e h
  | _, .both _ _, ⟨p, dx, u, w, h1, h2, h3, h4⟩ => ⟨p, dx, u, w, h1, e _ _ h2, qPatR_mono e h3, qPatR_mono e h4⟩
  | _, .either _ _, ⟨p, dx, u, w, h1, h2, h3, h4⟩ => ⟨p, dx, u, w, h1, e _ _ h2, qPatR_mono e h3, qPatR_mono e h4⟩
def qPat : R Pat := ⟨fun K F v a => qPatR K F v a, fun e h => qPatR_mono e h⟩
def Pat.cls : Pat → Str
  | .form _ => "Form"
  | .both _ _ => "Both"
  | .either _ _ => "Either"
def patN {α : Type} (n : Nat) (a : Pat) (x : Option α) : Option α := gd (decide (a.ht ≤ n)) <| gd (decide (a.forms.length ≤ 16)) x
def m_pat_forms (a : Pat) : Option (List (List Str)) := patN 3 a (some a.forms)
theorem patN_some {α : Type} {n : Nat} {a : Pat} {x : Option α} {r : α} (h : patN n a x = some r) : a.ht ≤ n ∧ a.forms.length ≤ 16 ∧ x = some r := by
  obtain ⟨h1, h⟩ := gd_some h
  obtain ⟨h2, h⟩ := gd_some h
  exact ⟨of_decide_eq_true h1, of_decide_eq_true h2, h⟩
theorem patN_of {α : Type} {n : Nat} {a : Pat} {x : Option α} (h1 : a.ht ≤ n) (h2 : a.forms.length ≤ 16) : patN n a x = x := by
  unfold patN
  rw [gd_true (decide_eq_true h1), gd_true (decide_eq_true h2)]
def isPatC (x : Str) : Prop := x = "Form" ∨ x = "Both" ∨ x = "Either"
theorem Pat.isC (a : Pat) : isPatC a.cls := by
  cases a with
  | form => exact .inl rfl
  | both => exact .inr (.inl rfl)
  | either => exact .inr (.inr rfl)
/-- a method of all three classes: what each keeps -/
structure VM (P : Program) (w : World) (K : PySem.W.Frag) (mg : Str → Option Value) (base : Heap) (k : Nat) (m : Str) (ps : List Str) (sp : Str → Sp) : Prop where
  go : ∀ x, isPatC x → Cls K (He.ga K x) ∧ Meth K (He.ga K x) m (He.fAd K (x, some m)) ∧ FnOk P w K mg base CX0 k (He.fAd K (x, some m)) (fdOf K (x, some m)) ps (sp x) ∧ Binds K (fdOf K (x, some m)) ps []
theorem qPat_ins {K : PySem.W.Frag} {F H : Hp} {v : V} {a : Pat} (r : qPat.r K F v a) (s : Same F H) : ∃ p dx fs, v = .ref p ∧ H p = some (.ins (He.ga K a.cls) dx fs) ∧ ∀ m : Str, m ≠ "pieces" → m ≠ "left" → m ≠ "right" → fs.lookup m = none := by
  cases a with
  | form ps =>
    obtain ⟨p, dx, u0, h1, h2, _⟩ := (show qForm.r K F v ps from r)
    exact ⟨p, dx, _, h1, s _ _ h2, fun m n1 n2 n3 => by simp [List.lookup, beq_eq_false_iff_ne.mpr n1]⟩
  | both l r' =>
    obtain ⟨p, dx, u, w, h1, h2, _⟩ := (show qPatR K F v (.both l r') from r)
    exact ⟨p, dx, _, h1, s _ _ h2, fun m n1 n2 n3 => by simp [List.lookup, beq_eq_false_iff_ne.mpr n2, beq_eq_false_iff_ne.mpr n3]⟩
  | either l r' =>
    obtain ⟨p, dx, u, w, h1, h2, _⟩ := (show qPatR K F v (.either l r') from r)
    exact ⟨p, dx, _, h1, s _ _ h2, fun m n1 n2 n3 => by simp [List.lookup, beq_eq_false_iff_ne.mpr n2, beq_eq_false_iff_ne.mpr n3]⟩
section
variable {X : Cx} {k : Nat} {m : Str} {ps : List Str} {sp : Str → Sp} {F H F0 H0 : Hp} {P' : Addr → Prop} {v : V} {a : Pat} {Q : VK} {t : (List V → Hp → Prop) → Hp → Prop} {E : XK}
theorem VM.call (V : VM X.prog X.w X.K X.mg X.base k m ps sp) (hr : Room k X.A) (S : Sx P' F0 H0 F H) (r : qPat.r X.K F v a) (kt : t (fun vs H2 => sp a.cls (v :: vs) H2 Q E) H)
    (n1 : m ≠ "pieces" := by decide) (n2 : m ≠ "left" := by decide) (n3 : m ≠ "right" := by decide) : mvK X m E t Q v H := by
  obtain ⟨p, dx, fs, rfl, h2, h3⟩ := qPat_ins r S.sub
  obtain ⟨c, me, F, b⟩ := V.go a.cls a.isC
  exact ⟨p, dx, fs, _, sp a.cls, rfl, h2, h3 m n1 n2 n3, ⟨_, k, _, ps, CX0, c, me, F, hr, b, pass0⟩, kt⟩
end
def sp_pat_forms (n : Nat) (x : Str) (K : PySem.W.Frag) : Sp := fun vs H Q _ => ∃ (F : Hp) (v_self : V) (a_self : Pat) (r : List (List Str)), vs = [v_self] ∧ Same F H ∧ qPat.r K F v_self a_self ∧ a_self.cls = x ∧ patN n a_self (some a_self.forms) = some r ∧ ∀ v F' H', Sx P0 F H F' H' → (qL qForm).r K F' v r → Q v H'
structure InsF (K : PySem.W.Frag) (C : Addr) : Prop where
  ha : PySem.W.findIn K (.ref C) "__class__" = some (some (.builtin "object.__class__"))
  hn : PySem.W.specialIn K (.builtin "object.__class__") "__get__" = some (some (.builtin "getset_descriptor.__get__"))
  htk : PySem.W.takesIn K (.builtin "object.__class__") = some true
  hm : PySem.W.mroIn K C (.type "object") = some true
def insB (K : PySem.W.Frag) (C : Addr) : Bool := He.eqO (PySem.W.findIn K (.ref C) "__class__") (some (some (.builtin "object.__class__"))) && (decide (PySem.W.specialIn K (.builtin "object.__class__") "__get__" = some (some (.builtin "getset_descriptor.__get__"))) && (decide (PySem.W.takesIn K (.builtin "object.__class__") = some true) && decide (PySem.W.mroIn K C (.type "object") = some true)))
theorem insB_ok {K : PySem.W.Frag} {C : Addr} (h : insB K C = true) : InsF K C := by
  unfold insB at h
  obtain ⟨h1, h⟩ := He.ba h
  obtain ⟨h2, h⟩ := He.ba h
  obtain ⟨h3, h4⟩ := He.ba h
  exact ⟨He.eqO_ok h1, of_decide_eq_true h2, of_decide_eq_true h3, of_decide_eq_true h4⟩
/-- what the head says of the three classes -/
structure PatF (K : PySem.W.Frag) : Prop where
  cls : ∀ x, isPatC x → Cls K (He.ga K x)
  ins : ∀ x, isPatC x → InsF K (He.ga K x)
  isa : ∀ x, isPatC x → PySem.W.kitOne K (.ref (He.ga K x)) (.ref (He.ga K "Pattern")) = some true
  and_ : ∀ x, isPatC x → OwnOp K (He.ga K x) "and" (He.fAd K ("Pattern", some "__and__"))
  or_ : ∀ x, isPatC x → OwnOp K (He.ga K x) "or" (He.fAd K ("Pattern", some "__or__"))
  ap : ∀ x y, isPatC x → isPatC y → He.ga K x = He.ga K y ∨ PySem.W.subIn K (.ref (He.ga K y)) (.ref (He.ga K x)) = some false
def patCs : List Str := ["Form", "Both", "Either"]
theorem patCs_mem {x : Str} (h : isPatC x) : x ∈ patCs := by
  rcases h with rfl | rfl | rfl <;> simp [patCs]
def patB (K : PySem.W.Frag) : Bool := patCs.all fun x => insB K (He.ga K x) && (isaB K x "Pattern" true && (ownOpB K x "and" (He.fAd K ("Pattern", some "__and__")) && (ownOpB K x "or" (He.fAd K ("Pattern", some "__or__")) && patCs.all (apartB K x))))
theorem patB_ok {K : PySem.W.Frag} (h : patB K = true) (c1 : Cls K (He.ga K "Form")) (c2 : Cls K (He.ga K "Both")) (c3 : Cls K (He.ga K "Either")) : PatF K := by
  have z := fun x (hx : isPatC x) => List.all_eq_true.mp h x (patCs_mem hx)
  refine ⟨fun x hx => ?_, fun x hx => ?_, fun x hx => ?_, fun x hx => ?_, fun x hx => ?_, fun x y hx hy => ?_⟩
  · rcases hx with rfl | rfl | rfl
    · exact c1
    · exact c2
    · exact c3
  · exact insB_ok (He.ba (z x hx)).1
  · exact isaB_ok (He.ba (He.ba (z x hx)).2).1
  · exact ownOpB_ok (He.ba (He.ba (He.ba (z x hx)).2).2).1
  · exact ownOpB_ok (He.ba (He.ba (He.ba (He.ba (z x hx)).2).2).2).1
  · exact apartB_ok (List.all_eq_true.mp (He.ba (He.ba (He.ba (He.ba (z x hx)).2).2).2).2 y (patCs_mem hy))
section
variable {K : PySem.W.Frag} {F H F0 H0 : Hp} {P' : Addr → Prop} {v w : V} {a b : Pat} {Q : VK} {sp : Sp} {E : XK}
theorem tx_pat (T : PatF K) (S : Sx P' F0 H0 F H) (r : qPat.r K F v a) : TyX K H v (.ref (He.ga K a.cls)) := by
  obtain ⟨p, dx, fs, rfl, h2, h3⟩ := qPat_ins r S.sub
  obtain ⟨i1, i2, i3, i4⟩ := T.ins a.cls a.isC
  exact .base (.ins h2 (T.cls a.cls a.isC) i1 i2 i3 i4)
theorem rd_isPat (T : PatF K) (S : Sx P' F0 H0 F H) (r : qPat.r K F v a) (k : Q (.bl true) H) : rIsi K [v, .ref (He.ga K "Pattern")] H Q :=
  ⟨v, _, _, _, true, rfl, .own _, tx_pat T S r, T.isa a.cls a.isC, k⟩
theorem pat_op {nm : String} {f : Addr} (o : ∀ x, isPatC x → OwnOp K (He.ga K x) nm f) (T : PatF K) (S : Sx P' F0 H0 F H) (r : qPat.r K F v a) (r2 : qPat.r K F w b) (k : sp [v, w] H Q E) : rBinO K nm f sp E v w H Q := by
  obtain ⟨p, dx, fs, rfl, h2, h3⟩ := qPat_ins r S.sub
  obtain ⟨q, dy, gs, rfl, h5, h6⟩ := qPat_ins r2 S.sub
  exact ⟨p, q, _, _, dx, dy, fs, gs, f, rfl, rfl, h2, h5, o a.cls a.isC, o b.cls b.isC, T.ap a.cls b.cls a.isC b.isC, k⟩
theorem pat_and (T : PatF K) (S : Sx P' F0 H0 F H) (r : qPat.r K F v a) (r2 : qPat.r K F w b) (k : sp [v, w] H Q E) : rBinO K "and" (He.fAd K ("Pattern", some "__and__")) sp E v w H Q := pat_op T.and_ T S r r2 k
theorem pat_or (T : PatF K) (S : Sx P' F0 H0 F H) (r : qPat.r K F v a) (r2 : qPat.r K F w b) (k : sp [v, w] H Q E) : rBinO K "or" (He.fAd K ("Pattern", some "__or__")) sp E v w H Q := pat_op T.or_ T S r r2 k
end
/-! ## x is None -/
class NN {α : Type} (A : R α) : Prop where
  n : ∀ {K : PySem.W.Frag} {F : Hp} {v : V} {a : α}, A.r K F v a → v ≠ .non
instance : NN qI := ⟨fun h => by cases (show _ = V.int _ from h); exact fun z => nomatch z⟩
instance : NN qS := ⟨fun h => by cases (show _ = V.str _ from h); exact fun z => nomatch z⟩
instance : NN qB := ⟨fun h => by cases (show _ = V.bl _ from h); exact fun z => nomatch z⟩
instance {α : Type} {A : R α} : NN (qL A) := ⟨fun ⟨p, vs, h, _⟩ => by subst h; exact fun z => nomatch z⟩
instance {α : Type} {A : R α} : NN (qT A) := ⟨fun ⟨p, vs, h, _⟩ => by subst h; exact fun z => nomatch z⟩
instance {α β : Type} {A : R α} {B : R β} : NN (q2 A B) := ⟨fun ⟨p, u, w, h, _⟩ => by subst h; exact fun z => nomatch z⟩
instance {α β γ : Type} {A : R α} {B : R β} {C : R γ} : NN (q3 A B C) := ⟨fun ⟨p, u, w, z, h, _⟩ => by subst h; exact fun z => nomatch z⟩
instance : NN qForm := ⟨fun ⟨p, dx, u, h, _⟩ => by subst h; exact fun z => nomatch z⟩
instance : NN qPat := ⟨fun h => by obtain ⟨p, _, _, rfl, _⟩ := qPat_ins h (Same.refl _); exact fun z => nomatch z⟩
def rIsN0 : R2 := fun x y H Q => y = .non ∧ Q (.bl (decide (x = .non))) H
theorem op_isN' {X : Cx} : OpR X (compareOp .Is) rIsN0 := op_isN
section
variable {α : Type} {A : R α} {K : PySem.W.Frag} {F H : Hp} {v : V} {Q : VK} {a : Option α} {b : α}
theorem qO_non [N : NN A] (r : (qO A).r K F v a) : decide (v = .non) = a.isNone := by
  cases a with
  | none => cases (show v = .non from r); rfl
  | some a => exact decide_eq_false (N.n r)
theorem rd_isN [NN A] (r : (qO A).r K F v a) (k : Q (.bl a.isNone) H) : rIsN0 v .non H Q := ⟨rfl, by rw [qO_non r]; exact k⟩
/-- what is known to be there -/
theorem qO_some (r : (qO A).r K F v a) (h : a = some b) : A.r K F v b := by subst h; exact r
end
end Gl
namespace Gl
open PySem PySem.Spec PyProof.Rows L2
/-- data of one kind, which can be put in order -/
class Ord1 {α : Type} {A : R α} (D : Dat A) where
  n : Nat
  al : ∀ a b, PySem.W.alike (D.d a) (D.d b) = true
  dep : ∀ a, (D.d a).depth ≤ n
class Ordd {α : Type} {A : R α} (D : Dat A) extends Ord1 D where
  srt : ∀ bs : List α, PySem.W.Sortable (bs.map D.d)
theorem depAllQ {α : Type} {A : R α} (D : Dat A) (n : Nat) (h : ∀ a, (D.d a).depth ≤ n) : ∀ xs : List α, PyData.depthAll (xs.map D.d) ≤ n
  | [] => by simp [PyData.depthAll]
  | x :: xs => by
    rw [List.map_cons, PyData.depthAll]
    exact Nat.max_le.mpr ⟨h x, depAllQ D n h xs⟩
theorem alAll {α : Type} {A : R α} (D : Dat A) [o : Ord1 D] : ∀ xs ys : List α, PySem.W.alikeAll (xs.map D.d) (ys.map D.d) = true
  | [], _ => by simp [PySem.W.alikeAll]
  | _ :: _, [] => by simp [PySem.W.alikeAll]
  | x :: xs, y :: ys => by
    rw [List.map_cons, List.map_cons, PySem.W.alikeAll, alAll D xs ys, o.al x y]; rfl
instance oI : Ordd dI where
  n := 0
  al := fun _ _ => rfl
  dep := fun _ => Nat.zero_le _
  srt := fun bs => PySem.W.Sortable.others fun b => ⟨(fun z => nomatch z), fun _ z => nomatch z⟩
instance oS : Ordd dS where
  n := 0
  al := fun _ _ => rfl
  dep := fun _ => Nat.zero_le _
  srt := fun bs => PySem.W.Sortable.others fun b => ⟨(fun z => nomatch z), fun _ z => nomatch z⟩
instance oB : Ordd dB where
  n := 0
  al := fun _ _ => rfl
  dep := fun _ => Nat.zero_le _
  srt := fun bs => PySem.W.Sortable.others fun b => ⟨(fun z => nomatch z), fun _ z => nomatch z⟩
instance oT {α : Type} {A : R α} {D : Dat A} [o : Ord1 D] : Ord1 (dT D) where
  n := o.n + 1
  al := fun a b => by
    show PySem.W.alike (.tuple (a.map D.d)) (.tuple (b.map D.d)) = true
    rw [PySem.W.alike]; exact alAll D a b
  dep := fun a => by
    show (PyData.tuple (a.map D.d)).depth ≤ _
    rw [PyData.depth]
    have := depAllQ D o.n o.dep a
    omega
instance oL {α : Type} {A : R α} {D : Dat A} [o : Ord1 D] : Ordd (dL D) where
  n := o.n + 1
  al := fun a b => by
    show PySem.W.alike (.list (a.map D.d)) (.list (b.map D.d)) = true
    rw [PySem.W.alike]; exact alAll D a b
  dep := fun a => by
    show (PyData.list (a.map D.d)).depth ≤ _
    rw [PyData.depth]
    have := depAllQ D o.n o.dep a
    omega
  srt := fun bs => PySem.W.Sortable.others fun b => ⟨(fun z => nomatch z), fun _ z => nomatch z⟩
instance o2 {α β : Type} {A : R α} {B : R β} {D : Dat A} {E : Dat B} [o : Ord1 D] [p : Ord1 E] : Ordd (d2 D E) where
  n := max o.n p.n + 1
  al := fun a b => by
    show PySem.W.alike (.tuple [D.d a.1, E.d a.2]) (.tuple [D.d b.1, E.d b.2]) = true
    simp [PySem.W.alike, PySem.W.alikeAll, o.al, p.al]
  dep := fun a => by
    show (PyData.tuple [D.d a.1, E.d a.2]).depth ≤ _
    have h1 := o.dep a.1
    have h2 := p.dep a.2
    simp only [PyData.depth, PyData.depthAll]
    omega
  srt := fun bs => PySem.W.Sortable.tuples fun b => ⟨_, _, rfl⟩
end Gl
namespace Gl
open PySem PySem.Spec PyProof.Rows L2
end Gl
namespace Gl
open PySem PySem.Spec PyProof.Rows L2
/-! ## rows of unlike things -/
structure RR (α : Type) where
  r : PySem.W.Frag → Hp → List V → α → Prop
  mono : ∀ {K : PySem.W.Frag} {F F' : Hp} {v : List V} {a : α}, Same F F' → r K F v a → r K F' v a
def f1 {α : Type} (A : R α) : RR α := ⟨fun K F vs a => ∃ u, vs = [u] ∧ A.r K F u a, fun e ⟨u, h1, h2⟩ => ⟨u, h1, A.mono e h2⟩⟩
def fc {α β : Type} (A : R α) (B : RR β) : RR (α × β) := ⟨fun K F vs a => ∃ u us, vs = u :: us ∧ A.r K F u a.1 ∧ B.r K F us a.2, fun e ⟨u, us, h1, h2, h3⟩ => ⟨u, us, h1, A.mono e h2, B.mono e h3⟩⟩
def qLr {α : Type} (B : RR α) : R α := ⟨fun K F v a => ∃ p vs, v = .ref p ∧ F p = some (.lst vs) ∧ B.r K F vs a, fun e ⟨p, vs, h1, h2, h3⟩ => ⟨p, vs, h1, e _ _ h2, B.mono e h3⟩⟩
def qTr {α : Type} (B : RR α) : R α := ⟨fun K F v a => ∃ p vs, v = .ref p ∧ SqT K F p vs ∧ B.r K F vs a, fun e ⟨p, vs, h1, h2, h3⟩ => ⟨p, vs, h1, same_t e h2, B.mono e h3⟩⟩
structure DatR {α : Type} (B : RR α) where
  d : α → List PyData
  dp : ∀ {K : PySem.W.Frag} {F : Hp} {v : List V} {a : α}, B.r K F v a → DpAll K F v (d a)
  eq : ∀ a b : α, PyData.eqvAll (d a) (d b) = true ↔ a = b
def e1 {α : Type} {A : R α} (D : Dat A) : DatR (f1 A) := ⟨fun a => [D.d a], fun ⟨u, h1, h2⟩ => by subst h1; exact .cons (D.dp h2) .nil, fun a b => by
  show (PyData.eqv (D.d a) (D.d b) && true) = true ↔ _
  rw [Bool.and_true, D.eq]⟩
def ec {α β : Type} {A : R α} {B : RR β} (D : Dat A) (E : DatR B) : DatR (fc A B) := ⟨fun a => D.d a.1 :: E.d a.2, fun ⟨u, us, h1, h2, h3⟩ => by subst h1; exact .cons (D.dp h2) (E.dp h3), fun a b => by
  show (PyData.eqv (D.d a.1) (D.d b.1) && PyData.eqvAll (E.d a.2) (E.d b.2)) = true ↔ _
  rw [Bool.and_eq_true, D.eq, E.eq]
  obtain ⟨a1, a2⟩ := a
  obtain ⟨b1, b2⟩ := b
  simp⟩
def dLr {α : Type} {B : RR α} (E : DatR B) : Dat (qLr B) := ⟨fun a => .list (E.d a), fun ⟨p, vs, h1, h2, h3⟩ => by subst h1; exact .lst (SqL.of h2) (E.dp h3), fun a b => E.eq a b⟩
def dTr {α : Type} {B : RR α} (E : DatR B) : Dat (qTr B) := ⟨fun a => .tuple (E.d a), fun ⟨p, vs, h1, h2, h3⟩ => by subst h1; exact .tup h2 (E.dp h3), fun a b => E.eq a b⟩
instance {α : Type} {B : RR α} : NN (qLr B) := ⟨fun ⟨p, vs, h, _⟩ => by subst h; exact fun z => nomatch z⟩
instance {α : Type} {B : RR α} : NN (qTr B) := ⟨fun ⟨p, vs, h, _⟩ => by subst h; exact fun z => nomatch z⟩
instance {α : Type} {B : RR α} {E : DatR B} : NotNone (dLr E) := ⟨fun _ => rfl, fun _ => rfl⟩
instance {α : Type} {B : RR α} {E : DatR B} : NotNone (dTr E) := ⟨fun _ => rfl, fun _ => rfl⟩
section
variable {K : PySem.W.Frag} {P : Addr → Prop} {F0 H0 F H F' : Hp} {v u : V} {Q : VK} {α : Type} {B : RR α} {a : α}
theorem alLr {vs : List V} (S : Sx P F0 H0 F H) (r : B.r K F vs a) (k : ∀ v F' H', Sx P0 F H F' H' → (qLr B).r K F' v a → Q v H') : nK Q H (.lst vs) :=
  alF S fun p F' H' c h => k _ F' H' c ⟨p, vs, rfl, h, B.mono c.le r⟩
end
end Gl
namespace Gl
open PySem PySem.Spec PyProof.Rows L2
/-! ## built-in methods, the reading by K itself -/
section
variable {X : Cx} {K : PySem.W.Frag} {T id : String} {name : Str} {o e : Expr} {es : List Expr} {to : TE} {t : TA} {r : V → List V → Hp → VK → Prop} {apos cpos : Pos}
theorem pe_bmK (pa : PlainAttrs T) (slot : Slot T name id) (hty : typeOf (.builtin id) = pure (.type "method_descriptor")) (hm : MtR X id r) (ho : PE X o to) (ha : PA X (e :: es) t) (hK : X.K = K := by rfl)
    (hbase : attributeBase o name X.env (eval o X.env) = eval o X.env := by rfl)
    (hfew : ((backTo cpos (starEach (e :: es) X.env)).all (fun x => !x.1) && (backToKw cpos (keywordEach [] X.env)).all (fun x => x.1.isSome)
      && decide ((e :: es).length + ([] : List Keyword).length + (if ([] : List Keyword).isEmpty then 0 else 1) < 30)) = true := by rfl)
    (hline : (apos.endLine == cpos.line) = true := by rfl) (hs : starEach (e :: es) X.env = (false, eval e X.env) :: starEach es X.env := by rfl) (hplain : (backTo cpos (starEach es X.env)).any (·.1) = false := by rfl) :
    PE X (.Call (.Attribute o name apos) (e :: es) [] cpos) (tBM K T r to t) := by
  subst hK; exact pe_bm pa slot hty hm ho ha hbase hfew hline hs hplain
end
end Gl
namespace Gl
open PySem PySem.Spec PyProof.Rows L2
end Gl
namespace Gl
open PySem PySem.Spec PyProof.Rows L2
end Gl
namespace L2
open PySem PySem.Spec PyProof.Rows
end L2
namespace Gl
open PySem PySem.Spec PyProof.Rows L2
end Gl
namespace Gl
open PySem PySem.Spec PyProof.Rows L2
/-! ## str(o), len(o), o of a class of the program's own -/
section
variable {X : Cx} {CX : CXT} {k : Nat} {C f : Addr} {fd : FuncData} {ps : List Str} {sp : Sp} {E : XK}
/-- run_fn two places deeper -/
theorem run_fn2 {pins : List (Addr × Obj)} {σ : L2.St} {H : Hp} {s : Shared} {Q : VK} {us : List Value} {vs : List V} (F : FnOk X.prog X.w X.K X.mg X.base CX k f fd ps sp) (hr : Room (k + 2) X.A) (hb : Binds X.K fd ps []) (hx : Passes CX X E)
    (I : Inv X pins σ H s) (r : Vals vs us) (h : sp vs H Q E) : wpAny (model X.prog X.w) X.A.in1.in1 (call (.ref f) us) (EP X pins σ Q) X.xe s := by
  have hl : (us ++ []).length = ps.length := by rw [List.append_nil, ← r.length]; exact F.len _ _ _ _ h
  have hb' := hb s us I.kIn hl
  rw [List.append_nil] at hb'
  refine wpAny_call (codeAny_mono (F.run X.A.in1.in1 X.stack s H ⟨us, []⟩ us vs Q E hr.in1.in1 I.env0.in1.in1 hb' r h) fun r s' hq => ?_)
  cases r with
  | error e => exact hx pins σ H s e s' I hq
  | ok fl =>
    cases fl with
    | ret u => exact I.after hq
    | next => exact False.elim hq
    | brk => exact False.elim hq
    | cont => exact False.elim hq
end
def stK (Q : VK) : VK := fun v H2 => ∃ t, v = .str t ∧ Q (.str t) H2
def rStrW (P : Program) (w : World) (K : PySem.W.Frag) (mg : Str → Option Value) (base : Heap) (k : Nat) : List V → Hp → VK → Prop := fun xs H Q => ∃ (a dx : Addr) (fs : List (Str × V)) (C f : Addr) (sp : Sp) (j : Nat) (fd : FuncData) (ps : List Str), xs = [.ref a] ∧ H a = some (.ins C dx fs) ∧
  Meth K C "__str__" f ∧ FnOk P w K mg base CX0 j f fd ps sp ∧ j ≤ k ∧ Binds K fd ps [] ∧ sp [.ref a] H (stK Q) E0
theorem cr_strW {X : Cx} {k : Nat} (hr : Room (k + 2) X.A) : CallR X (.type "str") (rStrW X.prog X.w X.K X.mg X.base k) := by
  intro pins s σ H xs us Q I r h
  obtain ⟨a, dx, fs, C, f, sp, j, fd, ps, rfl, e, hm, F, hj, hb, h⟩ := h
  obtain rfl := Vals.ref1 r
  obtain ⟨ox, od, J, _⟩ := StX.insC_at I (.inr ⟨dx, fs, e⟩)
  refine PySem.W.kso_call (by have := hr.un; show X.A.units + 1 + 1 < cLine; omega) I.kIn J hm.at_ hm.fn ?_
  have z := run_fn2 (X := X) (us := [.ref a]) (vs := [.ref a]) F (hr.mono (by omega)) hb pass0 I (.cons rfl .nil) (Q := stK Q) h
  refine wpAny_mono z (fun v s' hv => ?_) fun _ _ z => z
  obtain ⟨x, H', I', rx, t, ex, q⟩ := hv
  subst ex
  obtain ⟨tk, rfl⟩ := rx
  exact ⟨.str t, H', I', ⟨tk, rfl⟩, q⟩
theorem rd_stK {Q : VK} {t : Str} {H : Hp} (k : Q (.str t) H) : stK Q (.str t) H := ⟨t, rfl, k⟩
theorem VM.strW {P : Program} {w : World} {K : PySem.W.Frag} {mg : Str → Option Value} {base : Heap} {k : Nat} {ps : List Str} {sp : Str → Sp} {F H F0 H0 : Hp} {P' : Addr → Prop} {v : V} {a : Pat} {Q : VK} (V : VM P w K mg base k "__str__" ps sp) (S : Sx P' F0 H0 F H) (r : qPat.r K F v a)
    (kt : sp a.cls [v] H (stK Q) E0) : rStrW P w K mg base k [v] H Q := by
  obtain ⟨p, dx, fs, rfl, h2, h3⟩ := qPat_ins r S.sub
  obtain ⟨c, me, F, b⟩ := V.go a.cls a.isC
  exact ⟨p, dx, fs, _, _, sp a.cls, k, _, ps, rfl, h2, me, F, Nat.le_refl _, b, kt⟩
/-! ## f-strings of texts -/
section
variable {t te : TE} {ts : List TE} {acc y : Str} {σ : L2.St} {H : Hp} {R : Str → Hp → Prop} {Q : VK}
def jsK (ts : List TE) (acc : Str) (σ : L2.St) (R : Str → Hp → Prop) : VK := fun x H1 => ∃ y : Str, x = .str y ∧ (acc ++ y).length ≤ sizeLine ∧ tJs ts (acc ++ y) σ H1 R
theorem rd_js (k : t σ H (jsK ts acc σ R)) : tJs (t :: ts) acc σ H R := k
theorem js_at (h : (acc ++ y).length ≤ sizeLine) (k : tJs ts (acc ++ y) σ H R) : jsK ts acc σ R (.str y) H := ⟨y, rfl, h, k⟩
theorem rd_js0 (k : R acc H) : tJs [] acc σ H R := k
def fmK (Q : VK) : VK := fun x H1 => (∃ y : Str, x = .str y ∧ y.length ≤ sizeLine ∧ Q (.str y) H1) ∨ ∃ i : Int, x = .int i ∧ i.natAbs.log2 < 1920 ∧ Q (.str (toString i)) H1
theorem rd_fm (k : te σ H (fmK Q)) : tFmt te σ H Q := k
theorem fm_at (h : y.length ≤ sizeLine) (k : Q (.str y) H) : fmK Q (.str y) H := .inl ⟨y, rfl, h, k⟩
end
/-! ## the text of a pattern -/
def joinP (m x y : Str) : Str := Str.empty ++ ("(" : Str) ++ x ++ m ++ y ++ (")" : Str)
def joinPok (m x y : Str) : Bool := decide (x.length ≤ sizeLine) && decide (y.length ≤ sizeLine) && decide ((joinP m x y).length ≤ sizeLine)
theorem joinPok_len {m x y : Str} (h : joinPok m x y = true) : x.length ≤ sizeLine ∧ y.length ≤ sizeLine ∧ (Str.empty ++ ("(" : Str)).length ≤ sizeLine ∧ (Str.empty ++ ("(" : Str) ++ x).length ≤ sizeLine ∧ (Str.empty ++ ("(" : Str) ++ x ++ m).length ≤ sizeLine ∧ (Str.empty ++ ("(" : Str) ++ x ++ m ++ y).length ≤ sizeLine ∧ (Str.empty ++ ("(" : Str) ++ x ++ m ++ y ++ (")" : Str)).length ≤ sizeLine := by
  unfold joinPok joinP at h
  simp only [Bool.and_eq_true, decide_eq_true_eq] at h
  obtain ⟨⟨h1, h2⟩, h3⟩ := h
  simp only [Str.length_append] at h3 ⊢
  omega
def Pat.str : Pat → Option Str
  | .form a => gd (joinOk ("" : Str) a) (some (Txt.join ("" : Str) a))
  | .both l r => l.str.bind fun x => r.str.bind fun y => gd (joinPok (" & " : Str) x y) (some (joinP (" & " : Str) x y))
  | .either l r => l.str.bind fun x => r.str.bind fun y => gd (joinPok (" | " : Str) x y) (some (joinP (" | " : Str) x y))
def m_pat___str__ (a : Pat) : Option Str := patN 3 a a.str
def sp_pat_str (n : Nat) (x : Str) (K : PySem.W.Frag) : Sp := fun vs H Q _ => ∃ (F : Hp) (v_self : V) (a_self : Pat) (r : Str), vs = [v_self] ∧ Same F H ∧ qPat.r K F v_self a_self ∧ a_self.cls = x ∧ patN n a_self a_self.str = some r ∧ ∀ v F' H', Sx P0 F H F' H' → qS.r K F' v r → Q v H'
end Gl
namespace Gl
open PySem PySem.Spec PyProof.Rows L2
section
variable {K : PySem.W.Frag} {P : Addr → Prop} {F0 H0 F H : Hp} {v u : V} {Q : VK}
/-! ## sorted(xs), tuples of which some may be empty -/
end
end Gl
namespace Gl
open PySem PySem.Spec PyProof.Rows L2 C8
open PySem.OwnE (ErC IS putM)
/-! ## own errors that are let out of defs and caught -/
/-- go on, or hand the error on -/
def exB {ε α β : Type} : Except ε α → (α → Option (Except ε β)) → Option (Except ε β)
  | .ok a, k => k a
  | .error e, _ => some (.error e)
theorem exB_ok {ε α β : Type} {a : α} {k : α → Option (Except ε β)} {r : Except ε β} (h : exB (.ok a) k = some r) : k a = some r := h
theorem exB_err {ε α β : Type} {t : Except ε α} {e : ε} {k : α → Option (Except ε β)} {r : Except ε β} (ee : t = .error e) (h : exB t k = some r) : r = .error e := by
  subst ee
  exact (Option.some.inj h).symm
/-- try: the clause's suite, or what follows -/
def exT {ε α β : Type} : Except ε α → (ε → Option β) → (α → Option β) → Option β
  | .ok a, _, k => k a
  | .error e, h, _ => h e
theorem exT_ok {ε α β : Type} {a : α} {k : α → Option β} {h : ε → Option β} {r : β} (hm : exT (.ok a) h k = some r) : k a = some r := hm
theorem exT_err {ε α β : Type} {e : ε} {k : α → Option β} {h : ε → Option β} {r : β} (hm : exT (.error e : Except ε α) h k = some r) : h e = some r := hm
/-- an error of the class c with these fields, in the heap -/
def ErrAt (K : PySem.W.Frag) (H : Hp) (c : Str) (fs : List Str) (xs : List V) (cls : Value) (d : Option Addr) : Prop := ∃ dd, cls = .ref (He.ga K c) ∧ d = some dd ∧ H dd = some (.xd (putL fs xs []))
def ovI : Option Int → V
  | none => .non
  | some i => .int i
/-! ### raise -/
def tRz (t : L2.St → Hp → XK → Prop) (E : XK) : TS := fun _ σ H => t σ H E
section
variable {P : Program} {w : World} {K : PySem.W.Frag} {mg : Str → Option Value} {base : Heap} {N : List Str} {qual : Str} {scope : Scope} {f : Addr} {cd : Value} {A : Around} {outer : List Env} {s : Shared} {H0 : Hp} {E : XK}
theorem takes_cx : Takes (cxOf (L2.CX P w) P w K mg base N qual scope f cd A outer s H0 E) (fun cls d _ H' => E cls d H') := takes_of rfl rfl rfl rfl
theorem ps_rz {e : Expr} {t : L2.St → Hp → XK → Prop} {pos : Pos} (he : PMk (cxOf (L2.CX P w) P w K mg base N qual scope f cd A outer s H0 E) e t) : PS (cxOf (L2.CX P w) P w K mg base N qual scope f cd A outer s H0 E) (.Raise (some e) none pos) (tRz t E) := ps_raise rfl takes_cx he
end
section
variable {K : PySem.W.Frag} {P : Addr → Prop} {F0 H0 F H : Hp} {σ : L2.St} {c : Str} {fs : List Str} {xs : List V} {E : XK} {ta : TA} {N B C : L2.St → Hp → Prop} {R : VK}
def eK (K : PySem.W.Frag) (c : Str) (fs : List Str) (E : XK) : List V → Hp → Prop := fun vs H1 => vs.length = fs.length ∧ ∀ d, H1 d = none → E (.ref (He.ga K c)) (some d) (upd H1 d (.xd (putL fs vs [])))
theorem rd_rz (k : ta σ H (eK K c fs E)) : tRz (tErr (He.ga K c) fs ta) E ⟨N, R, B, C⟩ σ H := k
theorem rd_eK {vs : List V} (S : Sx P F0 H0 F H) (e : vs = xs) (hl : xs.length = fs.length) (k : ∀ cls d H', Sx P F0 H0 F H' → ErrAt K H' c fs xs cls d → E cls d H') : eK K c fs E vs H := by
  subst e
  exact ⟨hl, fun d hd => k _ _ _ (S.temp hd) ⟨d, rfl, rfl, upd_same⟩⟩
end
section
variable {K : PySem.W.Frag} {P : Addr → Prop} {F0 H0 F H : Hp} {σ : L2.St} {C : Addr} {sp : Sp} {E : L2.St → XK} {Q : VK} {t : TA}
theorem rd_callS (k : t σ H fun vs H1 => sp vs H1 Q (E σ)) : tCallS sp E t σ H Q := k
end
/-! ### try: body, except C as e: suite -/
def tTry (tb : WX → TS) (K : PySem.W.Frag) (c : Value) (i : Nat) (ts : Addr → Value → Option Addr → TS) (Wout : WX) : TS := fun D σ H => tb (wAs K c i ts Wout D) D σ H
section
variable {X : Cx} {x n : Str} {c : Value} {i : Nat} {body suite : List Stmt} {b₀ : Stmt} {np pos pos' : Pos} {tb : WX → TS} {ts : Addr → Value → Option Addr → TS} {Wout : WX}
theorem ps_tryK (hs : X.stack = X.env :: X.outer) (hf : X.env.frame = some X.env.locals) (hN : X.N.Nodup) (hi : X.N[i]? = some n) (hln : X.env.kindOf n = some .local) (hc : Names X x c) (tk : Takes X Wout)
    (hb : ∀ (W : WX) (pn : List (Addr × Obj)) (xe : Value → Shared → Prop), Takes (X.tr pn xe) W → PassesOwn (model X.prog X.w) X.A X.env xe → PSs (X.tr pn xe) body (tb W))
    (hsu : ∀ (a : Addr) (oe : Obj) (cls : Value) (d : Option Addr) (pn : List (Addr × Obj)), Zc cls d oe → (∃ vs, oe.data = .fields vs) → PSs (X.suite a ((a, oe) :: pn)) (b₀ :: suite) (ts a cls d)) :
    PS X (.Try body [.ExceptHandler (some (.Name x np)) (some n) (b₀ :: suite) pos'] [] [] pos) (tTry tb X.K c i ts Wout) := ps_try_as hs hf hN hi hln hc tk hb hsu
theorem takesF : Takes X (fun _ _ _ _ => False) := L2.takes0
end
section
variable {K : PySem.W.Frag} {P : Addr → Prop} {F0 H0 F H : Hp} {σ : L2.St} {c : Value} {i : Nat} {tb : WX → TS} {ts : Addr → Value → Option Addr → TS} {Wout : WX} {D : Ends} {N B C : L2.St → Hp → Prop} {R : VK} {cls : Value} {d : Option Addr}
theorem rd_try (k : tb (wAs K c i ts Wout ⟨N, R, B, C⟩) ⟨N, R, B, C⟩ σ H) : tTry tb K c i ts Wout ⟨N, R, B, C⟩ σ H := k
theorem rd_was (hb : PySem.W.exmOne K cls c = some true) (k : ∀ a, H a = none → ts a cls d ⟨fun σ' H' => D.nx (σ'.set i none) H', D.rt, fun σ' H' => D.bk (σ'.set i none) H', fun σ' H' => D.ct (σ'.set i none) H'⟩ (σ.set i (some (.ref a))) H) : WE (wAs K c i ts Wout D) σ cls d H := ⟨true, hb, fun _ => k, fun z => by cases z⟩
end
/-! ### fields of the caught error, isinstance of it -/
section
variable {K : PySem.W.Frag} {H : Hp} {σ : L2.St} {a C dd : Addr} {cls : Value} {d : Option Addr} {f : Str} {Q : VK} {te : TE} {l : List (Str × V)} {v : V}
def xfK (a : Addr) (cls : Value) (d : Option Addr) (C : Addr) (f : Str) (Q : VK) : VK := fun x H1 => x = .ref a ∧ cls = .ref C ∧ ∃ (dd : Addr) (fs : List (Str × V)) (v : V), d = some dd ∧ H1 dd = some (.xd fs) ∧ fs.lookup f = some v ∧ Q v H1
theorem rd_xf (k : te σ H (xfK a cls d C f Q)) : tXf a cls d C f te σ H Q := k
theorem xf_at (h : H dd = some (.xd l)) (e : l.lookup f = some v) (k : Q v H) : xfK a (.ref C) (some dd) C f Q (.ref a) H := ⟨rfl, rfl, dd, l, v, rfl, h, e, k⟩
/-- what is asked of a class, so that isinstance of its errors is known -/
def isEB (K : PySem.W.Frag) (D : Addr) : Bool := (PySem.W.clsIn K D).isSome && (decide (PySem.W.findIn K (.ref D) "__getattribute__" = some (some (.builtin "BaseException.__getattribute__"))) && (decide (PySem.W.findIn K (.ref D) "__getattr__" = some none) && (decide (PySem.W.subIn K (.ref D) (.type "BaseException") = some true) &&
  (decide (PySem.W.findIn K (.ref D) "__class__" = some (some (.builtin "object.__class__"))) && (decide (PySem.W.specialIn K (.builtin "object.__class__") "__get__" = some (some (.builtin "getset_descriptor.__get__"))) && (decide (PySem.W.takesIn K (.builtin "object.__class__") = some true) && decide (PySem.W.mroIn K D (.type "object") = some true)))))))
def rIsX (K : PySem.W.Frag) (D a : Addr) (cls : Value) (d : Option Addr) : List V → Hp → VK → Prop := fun xs H Q => ∃ (c : V) (cv : Value) (b : Bool) (dd : Addr) (l : List (Str × V)), xs = [.ref a, c] ∧ cls = .ref D ∧ d = some dd ∧ H dd = some (.xd l) ∧ (∀ u, RelV c u → u = cv) ∧ PySem.W.kitOne K (.ref D) cv = some b ∧ Q (.bl b) H
theorem cr_isX {X : Cx} {D : Addr} {oe : Obj} {pn : List (Addr × Obj)} (c : isEB X.K D = true) (hz : Zc cls d oe) (hf : ∃ vs, oe.data = .fields vs) : CallR (X.suite a ((a, oe) :: pn)) (.builtin "isinstance") (rIsX X.K D a cls d) := by
  intro pins s σ H xs us Q I r h
  obtain ⟨cv', cv, b, dd, l, rfl, rfl, rfl, hdd, hcv, e, q⟩ := h
  unfold isEB at c
  obtain ⟨c1, c⟩ := He.ba c
  obtain ⟨c2, c⟩ := He.ba c
  obtain ⟨c3, c⟩ := He.ba c
  obtain ⟨c4, c⟩ := He.ba c
  obtain ⟨c5, c⟩ := He.ba c
  obtain ⟨c6, c⟩ := He.ba c
  obtain ⟨c7, c8⟩ := He.ba c
  cases r with
  | cons rx rr =>
    cases rr with
    | cons rt rr =>
      cases rr
      cases rx
      have ec := hcv _ rt
      subst ec
      have hget := (I.pin (a, oe) (List.mem_append.mpr (.inl List.mem_cons_self))).1
      obtain ⟨vs, hv⟩ := hf
      obtain ⟨mA, hns, _⟩ := (I.hok dd _ hdd : ObjOk X.prog X.w H s.heap dd (.xd l))
      obtain ⟨od, ho, _⟩ := lookIn_ns hns
      have J : PySem.W.InstAt s.heap a oe D (some od) := ⟨hget, hz.1, by unfold PySem.W.notCls; rw [hv] <;> rfl, by rw [hz.2]; exact ho⟩
      exact PySem.W.kia_one (PySem.W.kitx_exc c1 (of_decide_eq_true c2) (of_decide_eq_true c3) (of_decide_eq_true c4) (of_decide_eq_true c5) (of_decide_eq_true c6) (of_decide_eq_true c7) (of_decide_eq_true c8)) I.kIn J e (fun z => nomatch z) fun tk => ⟨.bl b, H, I.kept (t' := tk) fun _ _ z => z, rfl, q⟩
def kitB (K : PySem.W.Frag) (D : Addr) (cv : Value) (b : Bool) : Bool := decide (PySem.W.kitOne K (.ref D) cv = some b)
theorem rd_isX {D : Addr} {cx : V} {cv : Value} {b : Bool} (h : H dd = some (.xd l)) (hc : ∀ u, RelV cx u → u = cv) (k : kitB K D cv b = true) (q : Q (.bl b) H) : rIsX K D a (.ref D) (some dd) [.ref a, cx] H Q := ⟨cx, cv, b, dd, l, rfl, rfl, rfl, h, hc, of_decide_eq_true k, q⟩
def exmB (K : PySem.W.Frag) (x y : Str) : Bool := decide (PySem.W.exmOne K (.ref (He.ga K x)) (.ref (He.ga K y)) = some true)
theorem exmB_ok {x y : Str} (h : exmB K x y = true) : PySem.W.exmOne K (.ref (He.ga K x)) (.ref (He.ga K y)) = some true := of_decide_eq_true h
end
theorem mt_joinKK {X : Cx} {K : PySem.W.Frag} (hK : X.K = K := by rfl) : MtR X "str.join" (rJoin K) := by subst hK; exact mt_joinK
/-! ## shapes: [k], or [sign, shape, shape] -/
inductive Shp where
  | lf (k : Int)
  | nd (op : Str) (l r : Shp)
def Shp.rel (F : Hp) : Shp → V → Prop
  | .lf k, v => ∃ p, v = .ref p ∧ F p = some (.lst [.int k])
  | .nd op l r, v => ∃ p u w, v = .ref p ∧ F p = some (.lst [.str op, u, w]) ∧ l.rel F u ∧ r.rel F w
theorem Shp.mono {F F' : Hp} (e : Same F F') : ∀ {a : Shp} {v : V}, a.rel F v → a.rel F' v
  | .lf _, _, ⟨p, h1, h2⟩ => ⟨p, h1, e _ _ h2⟩
  | .nd _ _ _, _, ⟨p, u, w, h1, h2, h3, h4⟩ => ⟨p, u, w, h1, e _ _ h2, Shp.mono e h3, Shp.mono e h4⟩
def qSh : R Shp := ⟨fun _ F v a => a.rel F v, fun e h => Shp.mono e h⟩
def Shp.len : Shp → Int
  | .lf _ => 1
  | .nd _ _ _ => 3
def Shp.num : Shp → Option Int
  | .lf k => some k
  | .nd _ _ _ => none
def Shp.op : Shp → Option Str
  | .lf _ => none
  | .nd z _ _ => some z
def Shp.lft : Shp → Option Shp
  | .lf _ => none
  | .nd _ l _ => some l
def Shp.rgt : Shp → Option Shp
  | .lf _ => none
  | .nd _ _ r => some r
section
variable {K : PySem.W.Frag} {P : Addr → Prop} {F0 H0 F H : Hp} {v : V} {Q : VK} {a l r : Shp} {k : Int} {z : Str}
theorem sh_of1 (h : (qL qI).r K F v [k]) : qSh.r K F v (.lf k) := by
  obtain ⟨p, vs, h1, h2, h3⟩ := h
  cases h3 with
  | cons h t =>
    cases t
    have e : _ = V.int k := h
    subst e
    exact ⟨p, h1, h2⟩
theorem sh_of3 {x : Str × Shp × Shp} (h : (qLr (fc qS (fc qSh (f1 qSh)))).r K F v x) : qSh.r K F v (.nd x.1 x.2.1 x.2.2) := by
  obtain ⟨p, vs, h1, h2, h3⟩ := h
  obtain ⟨u0, s0, rfl, e0, u1, s1, rfl, e1, u2, rfl, e2⟩ := h3
  have e : u0 = V.str x.1 := e0
  subst e
  exact ⟨p, u1, u2, h1, h2, e1, e2⟩
theorem rd_lenSh (S : Sx P F0 H0 F H) (h : qSh.r K F v a) (q : Q (.int a.len) H) : rLenQ K [v] H Q := by
  cases a with
  | lf k =>
    obtain ⟨p, rfl, h2⟩ := h
    exact ⟨p, _, rfl, .inl (SqL.of (S.sub _ _ h2)), q⟩
  | nd op l r =>
    obtain ⟨p, u, w, rfl, h2, _, _⟩ := h
    exact ⟨p, _, rfl, .inl (SqL.of (S.sub _ _ h2)), q⟩
theorem rd_shN (S : Sx P F0 H0 F H) (h : qSh.r K F v a) (e : a.num = some k) (q : Q (.int k) H) : rIxL K v (.int 0) H Q := by
  cases a with
  | lf k' =>
    cases e
    obtain ⟨p, rfl, h2⟩ := h
    exact ⟨p, _, 0, _, rfl, rfl, SqL.of (S.sub _ _ h2), rfl, q⟩
  | nd op l r => cases e
theorem rd_shO (S : Sx P F0 H0 F H) (h : qSh.r K F v a) (e : a.op = some z) (q : Q (.str z) H) : rIxL K v (.int 0) H Q := by
  cases a with
  | lf k' => cases e
  | nd op l r =>
    cases e
    obtain ⟨p, u, w, rfl, h2, _, _⟩ := h
    exact ⟨p, _, 0, _, rfl, rfl, SqL.of (S.sub _ _ h2), rfl, q⟩
theorem rd_shL (S : Sx P F0 H0 F H) (h : qSh.r K F v a) (e : a.lft = some l) (q : ∀ u, qSh.r K F u l → Q u H) : rIxL K v (.int 1) H Q := by
  cases a with
  | lf k' => cases e
  | nd op l' r =>
    cases e
    obtain ⟨p, u, w, rfl, h2, h3, _⟩ := h
    exact ⟨p, _, 1, u, rfl, rfl, SqL.of (S.sub _ _ h2), rfl, q u h3⟩
theorem rd_shR (S : Sx P F0 H0 F H) (h : qSh.r K F v a) (e : a.rgt = some r) (q : ∀ u, qSh.r K F u r → Q u H) : rIxL K v (.int 2) H Q := by
  cases a with
  | lf k' => cases e
  | nd op l r' =>
    cases e
    obtain ⟨p, u, w, rfl, h2, _, h4⟩ := h
    exact ⟨p, _, 2, w, rfl, rfl, SqL.of (S.sub _ _ h2), rfl, q w h4⟩
end
end Gl
namespace Gl
open PySem PySem.Spec PyProof.Rows L2 C8
section
variable {K : PySem.W.Frag} {P : Addr → Prop} {F0 H0 F H : Hp} {Q : VK} {σ : L2.St} {C p dx : Addr} {sp : Sp} {dvs : List V} {E : XK} {ta : TE} {fs : List (Str × V)}
/-! ## C(e, .., k = v, ..) -/
variable {n m : Nat} {gV : List V → List V → List V} {t tk : TA} {vs zs rest : List V}
end
/-! ## dicts whose keys are pairs, of truths, numbers .. -/
def nB (b : Bool) : NestedKey := .num (if b = true then 1 else 0)
theorem nB_inj : ∀ a b : Bool, nB a = nB b → a = b := by decide
def kB : Kd qB := ⟨nB, fun {K F v a} h => by cases (show v = .bl a from h); exact .bl a, nB_inj, fun a => by show 0 ≤ 8; omega⟩
def k2 {α β : Type} {A : R α} {B : R β} (D : Kd A) (G : Kd B) (hd : ∀ a, (D.k a).depth ≤ 3) (hg : ∀ a, (G.k a).depth ≤ 3) : Kd (q2 A B) := ⟨fun x => .tup [D.k x.1, G.k x.2], fun {K F v a} h => by
    obtain ⟨p, u, w, rfl, h1, h2, h3⟩ := h
    exact .tup h1 (.cons (D.is h2) (.cons (G.is h3) .nil)), fun a b h => by
    have e := NestedKey.tup.inj h
    obtain ⟨e1, e2⟩ := List.cons.inj e
    obtain ⟨e2, _⟩ := List.cons.inj e2
    exact Prod.ext (D.inj _ _ e1) (G.inj _ _ e2), fun a => by
    rw [NestedKey.depth]
    have h1 := hd a.1
    have h2 := hg a.2
    simp only [NestedKey.depthAll]
    omega⟩
def kBB : Kd (q2 qB qB) := k2 kB kB (fun _ => by show 0 ≤ 3; omega) (fun _ => by show 0 ≤ 3; omega)
/-! ## the order of tuples of unlike things -/
class OrdR {α : Type} {B : RR α} (E : DatR B) where
  n : Nat
  al : ∀ a b, PySem.W.alikeAll (E.d a) (E.d b) = true
  dep : ∀ a, PyData.depthAll (E.d a) ≤ n
instance orE1 {α : Type} {A : R α} {D : Dat A} [o : Ord1 D] : OrdR (e1 D) where
  n := o.n
  al := fun a b => by
    show PySem.W.alikeAll [D.d a] [D.d b] = true
    simp [PySem.W.alikeAll, o.al]
  dep := fun a => by
    show PyData.depthAll [D.d a] ≤ _
    have := o.dep a
    simp only [PyData.depthAll]
    omega
instance orEc {α β : Type} {A : R α} {B : RR β} {D : Dat A} {E : DatR B} [o : Ord1 D] [p : OrdR E] : OrdR (ec D E) where
  n := max o.n p.n
  al := fun a b => by
    show PySem.W.alikeAll (D.d a.1 :: E.d a.2) (D.d b.1 :: E.d b.2) = true
    rw [PySem.W.alikeAll, o.al, p.al]; rfl
  dep := fun a => by
    show PyData.depthAll (D.d a.1 :: E.d a.2) ≤ _
    have h1 := o.dep a.1
    have h2 := p.dep a.2
    simp only [PyData.depthAll]
    omega
instance orTr {α β : Type} {A : R α} {B : RR β} {D : Dat A} {E : DatR B} [o : Ord1 D] [p : OrdR E] : Ordd (dTr (ec D E)) where
  n := max o.n p.n + 1
  al := fun a b => by
    show PySem.W.alike (.tuple ((ec D E).d a)) (.tuple ((ec D E).d b)) = true
    rw [PySem.W.alike]; exact (orEc (D := D) (E := E)).al a b
  dep := fun a => by
    show (PyData.tuple ((ec D E).d a)).depth ≤ _
    rw [PyData.depth]
    have := (orEc (D := D) (E := E)).dep a
    exact Nat.succ_le_succ this
  srt := fun bs => PySem.W.Sortable.tuples fun b => ⟨_, _, rfl⟩
end Gl
namespace Gl
open PySem PySem.Spec PyProof.Rows L2 C8
/-- a fact told anew behind a step -/
theorem R.r.up {α : Type} {A : R α} {K : PySem.W.Frag} {P : Addr → Prop} {F H F' H' : Hp} {v : V} {a : α} (h : A.r K F v a) (c : Sx P F H F' H') : A.r K F' v a := A.mono c.le h
section
variable {K : PySem.W.Frag} {P : Addr → Prop} {F H F' H' : Hp}
theorem up2 {α0 α1 : Type} {A0 : R α0} {v0 : V} {a0 : α0} {A1 : R α1} {v1 : V} {a1 : α1} (h0 : A0.r K F v0 a0) (h1 : A1.r K F v1 a1) (c : Sx P F H F' H') : A0.r K F' v0 a0 ∧ A1.r K F' v1 a1 := ⟨h0.up c, h1.up c⟩
theorem up3 {α0 α1 α2 : Type} {A0 : R α0} {v0 : V} {a0 : α0} {A1 : R α1} {v1 : V} {a1 : α1} {A2 : R α2} {v2 : V} {a2 : α2} (h0 : A0.r K F v0 a0) (h1 : A1.r K F v1 a1) (h2 : A2.r K F v2 a2) (c : Sx P F H F' H') : A0.r K F' v0 a0 ∧ A1.r K F' v1 a1 ∧ A2.r K F' v2 a2 := ⟨h0.up c, h1.up c, h2.up c⟩
end
section
variable {α : Type} {A : R α} {K : PySem.W.Frag} {F H H0 : Hp} {P : Addr → Prop} {p : Addr} {vs : List V} {xs : List α}
theorem Ow.dS (w : Ow P H0 F H p (.lst vs)) (S : Same F H) (D : Dat A) (r : Row A K F vs xs) : SeenD (dL D) K H (.ref p) xs := .lst (SqL.of w.at_) (dpAll D (Row.mono S r))
end
end Gl
namespace Gl
open PySem PySem.Spec PyProof.Rows L2
/-! ## keys of texts, of what may be None, of tuples of unlike things -/
/-- a key's depth -/
class KDp {α : Type} {A : R α} (D : Kd A) where
  n : Nat
  le : ∀ a, (D.k a).depth ≤ n
  nn : ∀ a, D.k a ≠ .none
instance : KDp kI := ⟨0, fun _ => Nat.le_refl _, fun _ h => by cases h⟩
instance : KDp kB := ⟨0, fun _ => Nat.le_refl _, fun _ h => by cases h⟩
def kS : Kd qS := ⟨.text, fun {K F v a} h => by cases (show v = .str a from h); exact .txt a, fun a b h => by cases h; rfl, fun a => by show 0 ≤ 8; omega⟩
instance : KDp kS := ⟨0, fun _ => Nat.le_refl _, fun _ h => by cases h⟩
def kO {α : Type} {A : R α} (D : Kd A) [i : KDp D] : Kd (qO A) := ⟨fun o => match o with
  | none => .none
  | some a => D.k a, fun {K F v a} h => by
    cases a with
    | none => cases (show v = .non from h); exact .non
    | some a => exact D.is h, fun a b h => by
    cases a with
    | none => cases b with
      | none => rfl
      | some b => exact absurd h.symm (i.nn b)
    | some a => cases b with
      | none => exact absurd h (i.nn a)
      | some b => exact congrArg some (D.inj a b h), fun a => by
    cases a with
    | none => show 0 ≤ 8; omega
    | some a => exact D.dep a⟩
structure KdR {α : Type} (B : RR α) where
  ks : α → List NestedKey
  is : ∀ {K : PySem.W.Frag} {F : Hp} {vs : List V} {a : α}, B.r K F vs a → NKs K F (ks a) vs
  inj : ∀ a b : α, ks a = ks b → a = b
  dep : ∀ a : α, NestedKey.depthAll (ks a) ≤ 7
class KLow {α : Type} {A : R α} (D : Kd A) : Prop where
  le : ∀ a, (D.k a).depth ≤ 7
instance : KLow kI := ⟨fun _ => by show 0 ≤ 7; omega⟩
instance : KLow kB := ⟨fun _ => by show 0 ≤ 7; omega⟩
instance : KLow kS := ⟨fun _ => by show 0 ≤ 7; omega⟩
instance {α : Type} {A : R α} {D : Kd A} [i : KDp D] [j : KLow D] : KLow (kO D) := ⟨fun a => by
  cases a with
  | none => show 0 ≤ 7; omega
  | some a => exact j.le a⟩
instance : KLow kBB := ⟨fun a => by
  show NestedKey.depth (.tup [nB a.1, nB a.2]) ≤ 7
  rw [NestedKey.depth]
  simp only [NestedKey.depthAll]
  have h1 : (nB a.1).depth = 0 := rfl
  have h2 : (nB a.2).depth = 0 := rfl
  omega⟩
def g1 {α : Type} {A : R α} (D : Kd A) [i : KLow D] : KdR (f1 A) := ⟨fun a => [D.k a], fun ⟨u, h1, h2⟩ => by subst h1; exact .cons (D.is h2) .nil, fun a b h => D.inj _ _ (List.cons.inj h).1, fun a => by
  simp only [NestedKey.depthAll]
  have := i.le a
  omega⟩
end Gl
namespace Gl
open PySem PySem.Spec PyProof.Rows L2
end Gl
namespace Gl
open PySem PySem.Spec PyProof.Rows L2
end Gl
namespace Gl
open PySem PySem.Spec PyProof.Rows L2 C8
end Gl
namespace Gl
open PySem PySem.Spec PyProof.Rows L2
end Gl
namespace Gl
open PySem PySem.Spec PyProof.Rows L2
end Gl
namespace Gl
open PySem PySem.Spec PyProof.Rows L2
/-! ## a name's kind, decided -/
theorem dk {p : Prop} [Decidable p] (h : decide p = true) : p := of_decide_eq_true h
instance locDec {sc : Scope} {x : Str} : Decidable (Loc sc x) := inferInstanceAs (Decidable (sc.names.lookup x = some .local ∨ sc.names.lookup x = some .cell))
end Gl
namespace Gl
open PySem PySem.Spec PyProof.Rows L2
/-! ## a != b, a of a class with an == of its own and no != -/
structure OwnNe (K : PySem.W.Frag) (C : Addr) : Prop where
  ne : PySem.W.findIn K (.ref C) "__ne__" = some (some (.builtin "object.__ne__"))
  mro : PySem.W.mroIn K C (.type "object") = some true
end Gl
namespace Gl
open PySem PySem.W PySem.Calls PyProof.Rows
end Gl
namespace Gl
open PySem PySem.Spec PyProof.Rows L2
/-! ## what a class of one's own with an == must have -/
structure OwnE (K : PySem.W.Frag) (C : Str) : Prop where
  eq : OwnEq K (He.ga K C) (He.fAd K (C, some "__eq__"))
  ne : OwnNe K (He.ga K C)
  ni : PySem.W.notFirst K (He.ga K C) (.type "int") = true
  np : ∀ y, isPatC y → PySem.W.notFirst K (He.ga K C) (.ref (He.ga K y)) = true
  isa : PySem.W.kitOne K (.ref (He.ga K C)) (.ref (He.ga K C)) = some true
  isi : PySem.W.kitOne K (.type "int") (.ref (He.ga K C)) = some false
  isp : ∀ y, isPatC y → PySem.W.kitOne K (.ref (He.ga K y)) (.ref (He.ga K C)) = some false
  ins : InsF K (He.ga K C)
end Gl
namespace Gl
open PySem PySem.Spec PyProof.Rows L2
end Gl
namespace Gl
open PySem PySem.Spec PyProof.Rows L2
/-! ## for i, sign in enumerate(a text) -/
def IteS (x : Str) : It :=
  ⟨fun i _ => i < x.cps.size, fun i H v H' => ∃ T c, v = .ref T ∧ H T = none ∧ H' = upd H T (.tup [.int (i : Nat), .str ⟨#[c]⟩]) ∧ x.cps[i]? = some c, fun i _ => i = x.cps.size⟩
theorem turn_enumS {P : Program} {w : World} {K : PySem.W.Frag} {elts : List Expr} {kk : Nat} {tpos : Pos} (x : Str) (t : Tok) (e it : Addr) :
    Turn P w K (.Tuple elts kk tpos) (IteS x) [e, it] e (fun i h => (∃ old, IsEnum h e it ((i : Nat) : Int) old) ∧ h.IsStrIter it (strIterType x) x t i ∧ e ≠ it) where
  mem := by simp
  obj := fun i h st b hb => by
    obtain ⟨⟨old, he⟩, ⟨o, ho, hc, hd⟩, _⟩ := st
    have z : b = e ∨ b = it := by simpa using hb
    rcases z with z | z
    · rw [z]; exact ⟨_, he, fun v q => nomatch q⟩
    · rw [z]; exact ⟨o, ho, fun v q => by rw [hd] at q; cases q⟩
  keep := fun i h h' st k => let ⟨⟨old, he⟩, ⟨o, ho, r⟩, hne⟩ := st; ⟨⟨old, k e (by simp) _ he⟩, ⟨o, k it (by simp) o ho, r⟩, hne⟩
  item := by
    intro X hP hw hK hc i pins s σ H E I hf st hg
    subst hP hw hK
    obtain ⟨⟨old, he⟩, hit, hne⟩ := st
    have hel : e < s.heap.objs.size := Heap.lt_size he
    have hil : it < s.heap.objs.size := by obtain ⟨_, q, _⟩ := hit; exact Heap.lt_size q
    refine wpAny_pyNext_enum_itemD (Draws.text (A := X.A.in1) (show X.A.handled = none from I.ok.hd hc) it x t) he hit hg hne (by simpa using hne) fun u h' tk hPu ho hit' hT hsz hk => ?_
    obtain ⟨c, tk2, hcx, rfl⟩ := hPu
    refine ⟨_, rfl, wpAny_letOwnedTupleGo_enum (s := { s with heap := h', toks := tk + 1 }) ho fun h'' he' sb => ?_⟩
    have hT2 : h''.get? s.heap.objs.size = some { cls := .type "tuple", data := .seq #[.int i tk, .str ⟨#[c]⟩ tk2] } := (sb.2 _ (Nat.ne_of_gt hel)).trans hT
    have new : ObjOk X.prog X.w (upd H s.heap.objs.size (.tup [.int (i : Nat), .str ⟨#[c]⟩])) h'' s.heap.objs.size (.tup [.int (i : Nat), .str ⟨#[c]⟩]) :=
      ⟨by show 2 ≤ sizeLine; decide, [.int i tk, .str ⟨#[c]⟩ tk2], .cons ⟨_, rfl⟩ (.cons ⟨_, rfl⟩ .nil), ⟨_, hT2, rfl, _, rfl⟩⟩
    have I1 : Inv X pins σ (upd H s.heap.objs.size (.tup [.int (i : Nat), .str ⟨#[c]⟩])) { s with heap := h'', toks := tk + 1 } :=
      I.turnedNew (ch := [e, it]) (fun b ob hb q => (sb.2 b (fun z => hb (by simp [z]))).trans (hk b ob (fun z => hb (by simp [z])) (fun z => hb (by simp [z])) q)) hf (Nat.le_refl _) new
    refine ⟨.ref s.heap.objs.size, _, I1, rfl, ⟨_, c, rfl, I.hok.fresh (Nat.le_refl _), rfl, hcx⟩, ⟨⟨.str ⟨#[c]⟩ tk2, ?_⟩, ?_, hne⟩, fun b hb => ?_⟩
    · have e1 : ((i + 1 : Nat) : Int) = (i : Int) + 1 := by omega
      rw [e1]; exact he'
    · obtain ⟨o, ho2, r⟩ := hit'
      exact ⟨o, (sb.2 it (Ne.symm hne)).trans ho2, r⟩
    · have hb' : b < s.heap.objs.size := by
        have z : b = e ∨ b = it := by simpa using hb
        rcases z with z | z
        · rw [z]; exact hel
        · rw [z]; exact hil
      rw [upd_ne (Nat.ne_of_lt hb')]
      exact (hf b hb).1
  done := by
    intro X hP hw hK hc i pins s σ H E I hf st hg
    subst hP hw hK
    obtain ⟨⟨old, he⟩, hit, hne⟩ := st
    have hg : i = x.cps.size := hg
    subst hg
    obtain ⟨f0, f1, f2, f3, f4, f5⟩ := hf it (by simp)
    exact wpAny_pyNext_enum_endD (Draws.text (A := X.A.in1) (show X.A.handled = none from I.ok.hd hc) it x t) he hit fun h' eb => ⟨rfl, I.turned (t' := s.toks) (fun b o hb q => eb b o hb q) f0 f1 f3 f4 f5⟩
  self := fun A i s Q E st h => let ⟨⟨_, he⟩, _⟩ := st; wpAny_pyIter_enum he h
def iEnumS (ta : TA) : TI := fun σ H R => ta σ H fun vs H1 => ∃ x, vs = [.str x] ∧ R (IteS x) H1
theorem pi_enumS {X : Cx} {e : Expr} {ta : TA} {p pos tpos : Pos} {elts : List Expr} {kk : Nat} (hg : Gl X "enumerate") (hm : X.mg "enumerate" = none) (ha : PA X [e] ta) (hs : starEach [e] X.env = [(false, eval e X.env)] := by rfl) :
    PI X (.Tuple elts kk tpos) (.Call (.Name "enumerate" p) [e] [] pos) (iEnumS ta) := by
  refine ⟨fun pins s σ H R I h => ?_⟩
  refine Call_ (ld_blt I hg hm boot_enumerate (PyProof.Rows.callWith_type1 (thn (ha.run pos pins s σ H _ I h) fun us s1 ⟨vs, H1, I1, r1, q1⟩ => ?_) hs rfl))
  obtain ⟨x, ex, q⟩ := q1
  subst ex
  cases r1 with
  | cons r rr =>
    cases rr
    obtain ⟨t, rfl⟩ := r
    refine call_enumerate_str fun h' he hit hsz hk => wpAny_pyIter_enum he ?_
    have I2 : Inv X pins σ H1 { s1 with heap := h' } := I1.kept (t' := s1.toks) hk
    refine ⟨s1.heap.objs.size + 1, [s1.heap.objs.size + 1, s1.heap.objs.size], _, _, H1, rfl, I2, turn_enumS x t (s1.heap.objs.size + 1) s1.heap.objs.size, ⟨⟨.none, he⟩, hit, Nat.succ_ne_self _⟩, fun b hb => ?_, q⟩
    have z : b = s1.heap.objs.size + 1 ∨ b = s1.heap.objs.size := by simpa using hb
    have hle : s1.heap.objs.size ≤ b := by
      rcases z with z | z
      · rw [z]; exact Nat.le_add_right _ _
      · rw [z]; exact Nat.le_refl _
    exact I1.fpOk hle (I1.hok.fresh hle)
theorem feedsES {z : Str} : Feeds2 (IteS z) z.cps.size (fun _ => True) (fun i u w => u = .int (i : Nat) ∧ ∃ c, z.cps[i]? = some c ∧ w = .str ⟨#[c]⟩) :=
  ⟨fun i H h _ => h, fun H _ => rfl, fun i H x H' h _ ⟨T, c, e1, e2, e3, e4⟩ => ⟨T, _, _, e1, e2, e3, rfl, c, e4, rfl⟩⟩
theorem sgns_at {z : Str} {i c : Nat} (h : z.cps[i]? = some c) : (sgns z)[i]? = some ⟨#[c]⟩ := by
  unfold sgns
  rw [List.getElem?_map, Array.getElem?_toList, h]; rfl
theorem typedES {K : PySem.W.Frag} {F : Hp} {z : Str} : Typed2 qI qS K F z.cps.size (fun i u w => u = .int (i : Nat) ∧ ∃ c, z.cps[i]? = some c ∧ w = .str ⟨#[c]⟩) (enumI (sgns z)) :=
  ⟨by rw [enumI_len]; unfold sgns; rw [List.length_map, Array.length_toList], fun i u w ⟨e1, c, e2, e3⟩ => ⟨((i : Int), ⟨#[c]⟩), enumI_at (sgns_at e2), e1, e3⟩⟩
def wES (RI : It → Hp → Prop) : List V → Hp → Prop := fun vs H1 => ∃ x, vs = [.str x] ∧ RI (IteS x) H1
theorem rd_iES {tr : TA} {σ : L2.St} {H : Hp} {RI : It → Hp → Prop} (k : tr σ H (wES RI)) : iEnumS tr σ H RI := k
theorem rd_wES {x : Str} {H : Hp} {RI : It → Hp → Prop} (k : RI (IteS x) H) : wES RI [.str x] H := ⟨x, rfl, k⟩
/-! ## methods of texts -/
theorem rd_mSS {a b : Str} {R : Str → Str → Prop} (k : R a b) : ∃ a' b' : Str, V.str a = .str a' ∧ [V.str b] = [.str b'] ∧ R a' b' := ⟨a, b, rfl, rfl, k⟩
theorem rd_mSSI {a b : Str} {i : Int} {R : Str → Str → Int → Prop} (k : R a b i) : ∃ (a' b' : Str) (i' : Int), V.str a = .str a' ∧ [V.str b, V.int i] = [.str b', .int i'] ∧ R a' b' i' := ⟨a, b, i, rfl, rfl, k⟩
/-! ## C(*xs) -/
def tMakeRS (K : PySem.W.Frag) (C : Addr) (sp : Sp) (E : XK) (te : TE) : TE := fun σ H Q => te σ H fun y H1 => ∃ a xs, y = V.ref a ∧ (SqT K H1 a xs ∨ SqL K H1 a xs) ∧ mkK C sp E Q xs H1
section
variable {X : Cx} {CX : CXT} {k i : Nat} {f C : Addr} {sp : Sp} {E : XK} {x : Str} {e : Expr} {te : TE} {p sp_ pos : Pos}
theorem pe_makeRS (M : Mk X.K C f) (F : FnR X.prog X.w X.K X.mg X.base CX k f sp) (hr : Room (k + 1) X.A) (hg : Gl X x) (hm : X.mg x = some (.ref C)) (hx : Passes CX X E) (he : PE X e te) (hd : (x == ("__debug__" : Str)) = false := by decide)
    (hst : starEach [.Starred e sp_] X.env = [(true, eval e X.env)] := by rfl) : PE X (.Call (.Name x p) [.Starred e sp_] [] pos) (tMakeRS X.K C sp E te) := by
  refine ⟨fun pins s σ H Q I h => ?_⟩
  refine wpAny_Call_Name_kw (ld_glob I hg hm ?_ hd)
  refine PySem.W.callWith_S (h₀ := X.base) I.ok.mod.kin M.kp (thn (he.run pins s σ H _ I h) fun v s1 ⟨y, H1, I1, ry, a, xs, ey, hxs, q⟩ => ?_) hst
  subst ey
  obtain rfl : v = Value.ref a := ry
  exact StX.star_any I1 hxs fun us s2 I2 rv => ⟨I2.kIn, StX.run_makeR M F hr hx I2 rv q⟩
end
theorem pe_makeRSK {K : PySem.W.Frag} {X : Cx} {CX : CXT} {k : Nat} {f C : Addr} {sp : Sp} {E : XK} {x : Str} {e : Expr} {te : TE} {p sp_ pos : Pos} (M : Mk X.K C f) (F : FnR X.prog X.w X.K X.mg X.base CX k f sp) (hr : Room (k + 1) X.A) (hg : Gl X x) (hm : X.mg x = some (.ref C)) (hx : Passes CX X E) (he : PE X e te) (hK : X.K = K := by rfl) (hd : (x == ("__debug__" : Str)) = false := by decide)
    (hst : starEach [.Starred e sp_] X.env = [(true, eval e X.env)] := by rfl) : PE X (.Call (.Name x p) [.Starred e sp_] [] pos) (tMakeRS K C sp E te) := by
  subst hK; exact pe_makeRS M F hr hg hm hx he hd hst
theorem rd_makeRS {K : PySem.W.Frag} {C : Addr} {sp : Sp} {E : XK} {te : TE} {σ : L2.St} {H : Hp} {Q : VK} (k : te σ H fun y H1 => ∃ a xs, y = V.ref a ∧ (SqT K H1 a xs ∨ SqL K H1 a xs) ∧ mkK C sp E Q xs H1) : tMakeRS K C sp E te σ H Q := k
theorem rd_st1 {K : PySem.W.Frag} {P : Addr → Prop} {F0 H0 F H : Hp} {v : V} {α : Type} {A : R α} {xs : List α} {Z : List V → Prop} (S : Sx P F0 H0 F H) (r : (qL A).r K F v xs) (k : ∀ vs, Row A K F vs xs → vs.length = xs.length → Z vs) : ∃ a ys, v = V.ref a ∧ (SqT K H a ys ∨ SqL K H a ys) ∧ Z ys := by
  obtain ⟨p, vs, rfl, h, r⟩ := r
  exact ⟨p, vs, rfl, .inr (SqL.of (S.sub _ _ h)), k vs r (pLen r)⟩
end Gl
namespace Gl
open PySem PySem.Spec PyProof.Rows L2
end Gl
namespace Gl
open PySem PySem.Spec PyProof.Rows L2
end Gl
namespace Gl
open PySem PySem.Spec PyProof.Rows L2
end Gl
namespace Gl
open PySem PySem.Spec PyProof.Rows L2 C8 HotX
open PySem.OwnE (ErC IS putM)
section
variable {P : Program} {w : World} {K : PySem.W.Frag} {mg : Str → Option Value} {base : Heap} {N : List Str} {qual : Str} {scope : Scope} {f : Addr} {cd : Value} {A : Around} {outer : List Env} {s : Shared} {H0 : Hp} {E : XK}
theorem takes_cxN : L2N.Takes (cxOf (L2N.CX P w) P w K mg base N qual scope f cd A outer s H0 E) (fun cls d _ H' => E cls d H') := L2N.takes_of rfl rfl rfl rfl
theorem passes_cxN : Passes (L2N.CX P w) (cxOf (L2N.CX P w) P w K mg base N qual scope f cd A outer s H0 E) E := L2N.passes_call takes_cxN (fun _ _ _ _ h => h)
theorem owns_cxN : PassesOwn (model P w) (cxOf (L2N.CX P w) P w K mg base N qual scope f cd A outer s H0 E).A (cxOf (L2N.CX P w) P w K mg base N qual scope f cd A outer s H0 E).env (cxOf (L2N.CX P w) P w K mg base N qual scope f cd A outer s H0 E).xe := passes_of rfl
theorem ps_rzN {e : Expr} {t : L2.St → Hp → XK → Prop} {pos : Pos} (he : L2N.PMk (cxOf (L2N.CX P w) P w K mg base N qual scope f cd A outer s H0 E) e t) : PS (cxOf (L2N.CX P w) P w K mg base N qual scope f cd A outer s H0 E) (.Raise (some e) none pos) (tRz t E) := L2N.ps_raise rfl takes_cxN he
theorem owns_at (hd : Option Value) : PassesOwnAt (model P w) ((cxOf (L2.CX P w) P w K mg base N qual scope f cd A outer s H0 E).A.mark hd) (cxOf (L2.CX P w) P w K mg base N qual scope f cd A outer s H0 E).A (cxOf (L2.CX P w) P w K mg base N qual scope f cd A outer s H0 E).env (cxOf (L2.CX P w) P w K mg base N qual scope f cd A outer s H0 E).xe := L2H.passesAt_of rfl hd
end
/-! ### an error that is made: its six fields, its context None -/
section
variable {X : Cx} {C fI : Addr} {q : Str} {params : Arguments} {body : List Stmt} {scope : Scope} {fs : List Str}
/-- a made error's record -/
def MkN (X : Cx) (pins : List (Addr × Obj)) (σ : L2.St) (Q : XK) (u : Value) (s' : Shared) : Prop := L2N.MkP X pins σ Q u s' ∧ ∀ (a : Addr) (oe : Obj) (vs : Array Value), u = .ref a → s'.heap.get? a = some oe → oe.data = .fields vs → 4 < vs.size
def PMkN (X : Cx) (e : Expr) (t : L2.St → Hp → XK → Prop) : Prop := ∀ (pins : List (Addr × Obj)) (s : Shared) (σ : L2.St) (H : Hp) (Q : XK), Inv X pins σ H s → t σ H Q → wpAny (model X.prog X.w) X.A (eval e X.env) (MkN X pins σ Q) X.xe s
theorem PMkN.n {e : Expr} {t : L2.St → Hp → XK → Prop} (h : PMkN X e t) : L2N.PMk X e t := fun p s σ H Q I q => thn (h p s σ H Q I q) fun _ _ z => z.1
theorem pmk_errN {x : Str} {a : Expr} {as : List Expr} {ta : TA} {p pos : Pos} {k : Nat} (T : ErC X.prog X.K C fI q params body scope) (S : IS q params body scope fs) (hno : ∀ f ∈ fs, PySem.W.findIn X.K (.ref C) f = some none) (gC : X.mg x = some (.ref C)) (kC : PySem.W.keepIn X.K (.ref C) = true) (hr : L2H.RoomH (k + 1) X.A) (hg : Gl X x)
    (ha : PA X (a :: as) ta) (hdb : (x == ("__debug__" : Str)) = false := by decide)
    (he : starEach (a :: as) X.env = (false, eval a X.env) :: starEach as X.env := by rfl) (hpl : (backTo pos (starEach as X.env)).any (·.1) = false := by rfl) :
    PMkN X (.Call (.Name x p) (a :: as) [] pos) (tErr C fs ta) := by
  intro pins s σ H Q I h
  refine wpAny_Call_Name_kw (ld_glob I hg gC ?_ hdb)
  refine PySem.W.callWith_K (h₀ := X.base) I.ok.mod.kin kC (thn (ha.run pos pins s σ H _ I h) fun us s1 hh => ?_) he hpl
  obtain ⟨vs, H1, I1, r1, hl, q1⟩ := hh
  refine ⟨I1.kIn, ?_⟩
  show wpAny _ _ (call (.ref C) us) _ _ _
  have hlim := I1.nolimit
  obtain ⟨mb, Gb, hmb⟩ := I1.ok.mod.blt
  have hG : s1.heap.Ns mainGlobals X.mg := I1.ok.mod.glob.keeps I1.bk
  have hB : s1.heap.Ns builtinsNs mb := Gb.keeps I1.bk
  obtain ⟨hp, g, dr, tk, os⟩ := s1
  refine wpAny_call (PySem.OwnE.err_made T S hno I1.kIn hlim hG hB (hmb _ (by decide)) (by have := hr.dp; omega) (by rw [← r1.length]; exact hl) fun h' tk' e d M => ?_)
  show MkN X pins σ Q (.ref e) ⟨h', g, dr, tk', os⟩
  obtain ⟨oe, fv, hoe, hc, hd, hdat, h1, h2, h4⟩ := M.obj
  have hns := M.ns
  obtain ⟨G', g1, g2⟩ := restrict h' fun b => decide (b ≠ e)
  have gk : ∀ b, b ≠ e → G'.get? b = h'.get? b := fun b hb => g1 b (decide_eq_true hb)
  have ge : G'.get? e = none := g2 e (by simp)
  have old : ∀ b o, hp.get? b = some o → G'.get? b = some o := fun b o q => (gk b (Nat.ne_of_lt (Nat.lt_of_lt_of_le (Heap.lt_size q) M.new))).trans (M.keep b o q)
  have ob : ObjOk X.prog X.w (upd H1 d (.xd (putL fs vs []))) G' d (.xd (putL fs vs [])) :=
    ⟨_, hns.at (fun o q => (gk d M.dne).trans q), relO_putL r1 fun g => trivial⟩
  have J : Inv X pins σ (upd H1 d (.xd (putL fs vs []))) ⟨G', g, dr, tk', os⟩ := I1.laid (t' := tk') old M.dbig ob
  refine ⟨⟨e, oe, fv, ⟨G', g, dr, tk', os⟩, _, .ref C, some d, rfl, J, fun b o q => ?_, ge, hoe, ⟨hc, hd, fun v z => ?_⟩, hdat, h1, ?_, rfl, I1.bare, raises_own T.x.exC T.x.tyC, q1 d (I1.hok.fresh M.dbig)⟩, fun a2 o2 v2 ea hg2 hd2 => ?_⟩
  · by_cases hb : b = e
    · have q' : G'.get? b = some o := q
      rw [hb, ge] at q'; cases q'
    · exact (gk b hb).symm.trans q
  · rw [hdat] at z
    cases z
    exact h2
  · rw [upd_ne (Ne.symm M.dne)]
    exact I1.hok.fresh M.new
  · cases ea
    have q2 : h'.get? e = some o2 := hg2
    rw [hoe] at q2
    cases q2
    rw [hdat] at hd2
    cases hd2
    exact h4
end
/-! ### the clause's name goes while another error is in the air -/
/-- all frames of the stack but for one whose object is another dict -/
theorem frames_but {G h h2 : Heap} {L : Addr} (far : ∀ b, b ≠ L → h2.get? b = h.get? b) (there : ∃ o, h2.get? L = some o ∧ ∀ vs, o.data ≠ .fields vs) : ∀ {l : List Env}, h.FunFrames G l → h2.FunFrames G l
  | [], _ => trivial
  | en :: l, hl => by
    obtain ⟨hk, ⟨M, o, hf, hn, ho, hd⟩, hr⟩ := hl
    refine ⟨hk, ?_, frames_but far there hr⟩
    by_cases z : M = L
    · obtain ⟨o2, e2, d2⟩ := there
      exact ⟨M, o2, hf, hn, by rw [z]; exact e2, d2⟩
    · exact ⟨M, o, hf, hn, (far M z).trans ho, hd⟩
theorem held_but {G h h2 : Heap} {en : Env} {l : List Env} {a L : Addr} {Z : Obj → Prop} (x : HandSPX.HeldZ G (en :: l) a Z L h) (hf : en.frame = some L) (far : ∀ b, b ≠ L → h2.get? b = h.get? b) (there : ∃ o, h2.get? L = some o ∧ ∀ vs, o.data ≠ .fields vs) : HandSPX.HeldZ G (en :: l) a Z L h2 := by
  obtain ⟨x1, x2, x3, oe, vs, T, oT, ts, y1, y2, y3, y4, y5, y6, y7, y8, y9⟩ := x
  obtain ⟨nL, oL, hL, dL⟩ := x3.mem (b := L) (List.mem_filterMap.mpr ⟨en, List.mem_cons_self, hf⟩)
  have off : ∀ {b : Addr} {o : Obj} {us : Array Value}, h.get? b = some o → o.data = .fields us → b ≠ L := fun e d z => by
    subst z
    rw [hL] at e
    cases e
    exact dL _ d
  refine ⟨fun b o e => ?_, x2, frames_but far there x3, oe, vs, T, oT, ts, (far a (off y1 y3)).trans y1, y2, y3, y4, y5, y6, (far T (off y7 y8)).trans y7, y8, y9⟩
  refine (far b fun z => ?_).trans (x1 b o e)
  rw [z, nL] at e
  cases e
section
variable {X : Cx} {pins : List (Addr × Obj)} {σ : L2.St} {H : Hp} {s : Shared}
theorem slot_gone {i : Nat} {n : Str} {m : Str → Option Value} {v : Option Value} {h2 : Heap} (J : Inv X pins σ H s) (hN : X.N.Nodup) (hi : X.N[i]? = some n)
    (hlk : ∀ (j : Nat) (y : Str) (u : V), X.N[j]? = some y → σ[j]? = some (some u) → Vis X.env.scope y → ∃ w, RelV u w ∧ Look X.env s.heap m y w)
    (hn : h2.Ns X.env.locals (fun y => if y = n then v else m y)) (far : ∀ b, b ≠ X.env.locals → h2.get? b = s.heap.get? b) : Inv X pins (σ.set i none) H { s with heap := h2 } := by
  have away : ∀ {b : Addr} {o : Obj}, X.s_0.heap.get? b = some o → b ≠ X.env.locals := fun z y =>
    absurd (Nat.lt_of_lt_of_le (Heap.lt_size z) J.ok.above) (by rw [y]; exact Nat.lt_irrefl _)
  refine { ok := J.ok, os := J.os, bare := J.bare, free := J.free, freeC := J.freeC, len := by rw [List.length_set]; exact J.len, base := ?_, loc := ?_, cell := ?_, pin := ?_, hok := ?_ }
  · exact { keep := fun b o z n f x => (far b (away z)).trans (J.base.keep b o z n f x), free := J.base.free, tups := J.base.tups, frzs := J.base.frzs, tbls := J.base.tbls
            slot := fun b o z n f x => (J.base.slot b o z n f x).imp fun _ y => (far b (away z)).trans y
            there := fun b o z x => (J.base.there b o z x).imp fun _ y => (far b (away z)).trans y }
  · refine ⟨_, hn, fun j y u c1 c2 c3 => ?_⟩
    rcases Decidable.em (j = i) with z | z
    · rw [z] at c2
      exfalso
      rcases Nat.lt_or_ge i σ.length with w | w
      · rw [List.getElem?_set_self w] at c2
        cases c2
      · rw [List.getElem?_eq_none (by rw [List.length_set]; exact w)] at c2
        cases c2
    · rw [List.getElem?_set_ne fun y => z y.symm] at c2
      obtain ⟨w, r, l⟩ := hlk j y u c1 c2 c3
      refine ⟨w, r, l.imp (fun l => ⟨l.1, ?_⟩) fun l => ⟨l.1, l.2.imp fun c k => ⟨k.1, ?_⟩⟩⟩
      · show (if y = n then v else m y) = some w
        rw [if_neg fun e : y = n => z (nodup_ix hN c1 (by rw [e]; exact hi))]
        exact l.2
      · obtain ⟨co, e, e2⟩ := k.2
        exact ⟨co, (far c (J.cne y c k.1)).trans e, e2⟩
  · intro y c e
    obtain ⟨w, o, k, k2⟩ := J.cell y c e
    exact ⟨w, o, (far c (J.cne y c e)).trans k, k2⟩
  · intro p hp
    obtain ⟨e, r⟩ := J.pin p hp
    exact ⟨(far _ r.2.1).trans e, r⟩
  · intro b ob e
    refine (J.hok b ob e).stay (fun c w hc q => (far c fun z => ?_).trans q) (fun _ q => q) fun _ _ q => q
    have f := J.free
    rw [← z] at f
    rcases hc with hc | hc
    · rw [← hc, f] at e
      cases e
    · rw [f] at hc
      cases hc
end
/-- noted by the frame that it is met in -/
theorem sky_noted {M : Model} {A : Around} {E₁ : Value → Shared → Prop} {env : Env} {outer : List Env} {L a : Addr} {G : Heap} {Z : Obj → Prop} {s : Shared} {Q : Unit → Shared → Prop} (hZ : HandSPX.Steady Z) (hfr : A.frames = some (env :: outer)) (hf : env.frame = some L)
    (x : Sky G (env :: outer) a Z L s.heap) (hQ : ∀ h', HandSPX.HeldZ G (env :: outer) a Z L h' → s.heap.UpToSlots h' → Q () { s with heap := h' }) : wpAny M A (noteFrame (.ref a) env) Q E₁ s := by
  rcases x with ⟨hB, hn, hl, oe, vs, he, hz, hd, h1⟩ | fl | hh
  · exact HandSPX.look_newZ hZ hfr hl hf he hB hn hd h1 hz hQ
  · exact HandSPX.looks_onZ hZ hfr hf fl hQ
  · exact HandSPX.againZ hf hh.2.2.2 (hQ s.heap hh (Heap.UpToSlots.refl _))
/-- .. and passed on -/
theorem held_on {M : Model} {A : Around} {E₁ : Value → Shared → Prop} {env : Env} {l : List Env} {L a : Addr} {G : Heap} {Z : Obj → Prop} {s : Shared} {α : Type} {w : String} {Q : α → Shared → Prop} (hf : env.frame = some L) (x : HandSPX.HeldZ G l a Z L s.heap)
    (hE : ∀ h', HandSPX.HeldZ G l a Z L h' → s.heap.UpToSlots h' → E₁ (.ref a) { s with heap := h' }) : wpAny M A (passOn w (.ref a) env : Sem α) Q E₁ s := by
  obtain ⟨x1, x2, x3, x4⟩ := x
  obtain ⟨oe, vs, T, oT, ts, y1, y2, y3, y4, y5⟩ := id x4
  unfold PySem.passOn
  refine wpAny_bind (wpAny_field y1 y3 y4 ?_)
  rw [if_neg (show ¬ ((Value.ref T == Value.none) = true) from by simp)]
  have go : wpAny M A (setFlight (.ref a) env.frame) (fun _ t => wpAny M A (throw (.ref a) : Sem α) Q E₁ t) E₁ s := by
    rw [hf]
    exact HandSPX.setFlight_anyZ x1 x3 x4 fun h' k1 k2 k3 k4 => wpAny_throw (hE h' ⟨k1, x2, k2, k3⟩ k4)
  first
    | exact wpAny_bind (wpAny_pure (wpAny_bind go))
    | exact wpAny_bind go
/-! ### try: body, except C as n: a suite that may raise -/
section
variable {X : Cx} {x n : Str} {c : Value} {i : Nat} {body suite : List Stmt} {b₀ : Stmt} {np pos pos' : Pos} {tb : WX → TS} {ts : Addr → Value → Option Addr → TS} {E : XK}
/-- what the suite raises leaves the clause: the name goes, the error is passed on -/
theorem suite_out {pins : List (Addr × Obj)} {q : Addr × Obj} {u : Value} {s : Shared} {M : Model} {A : Around} {E₁ E₂ E₃ : Value → Shared → Prop} {w : String} (hs : X.stack = X.env :: X.outer) (hf : X.env.frame = some X.env.locals) (hN : X.N.Nodup) (hi : X.N[i]? = some n) (hln : X.env.kindOf n = some .local) (ok : X.Ok) (hA : A.frames = some (X.env :: X.outer))
    (tk : L2.Takes X (fun cls d _ H => E cls d H)) (hE : ∀ e t, X.xe e t → E₁ e t) (x : L2.XE (L2H.suiteX X q.1 (q :: (X.pn ++ pins))) (fun cls d _ H => E cls d H) u s) :
    wpAny M A (noteFrame u X.env) (fun _ s1 => wpAny M A (do bindName X.env n .none; unbindBehindTheSuite X.env n pos') (fun _ s2 => wpAny M A (passOn w u X.env : Sem Flow) (fun _ _ => False) E₁ s2) E₂ s1) E₃ s := by
  obtain ⟨a, G, sI, pn, σ, H, cls, d, rfl, I, nb, up, sky, na, os, ag, z⟩ := x
  have J : Inv X pins σ H sI := L2H.unsuiteX (a := q.1) (q := q) I ok
  have sky2 : Sky G (X.env :: X.outer) a (Zc cls d) X.env.locals s.heap := by rw [← hs]; exact sky
  refine sky_noted Zc.steady hA hf sky2 fun h1 he1 up1 => ?_
  obtain ⟨m, ⟨oL, es, ep, gL, dL, kL, rL⟩, lk⟩ := id J.loc
  obtain ⟨sl, gL1⟩ := (up.trans up1) _ _ gL (fun vs z => by rw [dL] at z; cases z)
  have hcls : (X.env.scope.kind == .class || (X.env.scope.kind == .module && X.env.locals != X.env.globals)) = false := by rw [ok.kind]; rfl
  refine wpAny_nameGoes_keeps hln (s := { s with heap := h1 }) (m := m) ⟨_, es, ep, gL1, dL, kL, rL⟩ hcls fun h2 v hn far => ?_
  obtain ⟨o2, es2, ep2, g2, d2, k2, r2⟩ := id hn
  have nf2 : ∀ vs, o2.data ≠ .fields vs := fun vs z => by rw [d2] at z; cases z
  have he2 := held_but he1 hf far.2 ⟨o2, g2, nf2⟩
  obtain ⟨hI, e1, e2⟩ : ∃ hI : Heap, hI.get? X.env.locals = some o2 ∧ ∀ b, b ≠ X.env.locals → hI.get? b = sI.heap.get? b := by
    refine ⟨sI.heap.update X.env.locals fun _ => o2, Heap.get?_update_self _ gL (Heap.get?_some_iff.mp g2).2, fun b hb => Heap.get?_update_other _ _ (Ne.symm hb)⟩
  have J2 : Inv X pins (σ.set i none) H { sI with heap := hI } := slot_gone J hN hi lk ⟨o2, es2, ep2, e1, d2, k2, r2⟩ e2
  have hLs : X.env.locals ∈ frs X.stack := by rw [hs]; exact List.mem_filterMap.mpr ⟨X.env, List.mem_cons_self, hf⟩
  refine held_on hf he2 fun h3 he3 up3 => hE _ _ (tk _ _ ⟨a, G, { sI with heap := hI }, pins, σ.set i none, H, cls, d, rfl, J2, fun b o e hb => ?_, fun b o e hd => ?_, .inr (.inr (by rw [hs]; exact he3)), na, os, ag, z⟩)
  · exact nb b o ((e2 b fun z => hb (by rw [z]; exact hLs)).symm.trans e) hb
  · rcases Decidable.em (b = X.env.locals) with z | z
    · have e' : hI.get? b = some o := e
      rw [z, e1] at e'
      cases e'
      obtain ⟨sl3, e3⟩ := up3 _ _ g2 nf2
      exact ⟨sl3, by rw [z]; exact e3⟩
    · obtain ⟨sl4, e4⟩ := (up.trans up1) b o ((e2 b z).symm.trans e) hd
      obtain ⟨sl5, e5⟩ := up3 b _ ((far.2 b z).trans e4) hd
      exact ⟨sl5, e5⟩
/-- the context of such a suite: E's wish, with the slots as they stand there -/
abbrev suiteE (X : Cx) (E : XK) (a : Addr) (pn : List (Addr × Obj)) : Cx := { X with A := X.A.mark (some (.ref a)), calm := false, pn := pn, xe := fun u t => L2.XE (L2H.suiteX X a pn) (fun cls d _ H => E cls d H) u t }
theorem suiteE_x {a : Addr} {pn pn' : List (Addr × Obj)} {σ : L2.St} {H : Hp} {s : Shared} (I : Inv (suiteE X E a pn) pn' σ H s) : Inv (L2H.suiteX X a pn) pn' σ H s := Inv.unwish (X := L2H.suiteX X a pn) (E := (suiteE X E a pn).xe) I
theorem x_suiteE {a : Addr} {pn pn' : List (Addr × Obj)} {σ : L2.St} {H : Hp} {s : Shared} (I : Inv (L2H.suiteX X a pn) pn' σ H s) : Inv (suiteE X E a pn) pn' σ H s := I.wish _
theorem takes_suiteE {a : Addr} {pn : List (Addr × Obj)} : L2.Takes (suiteE X E a pn) (fun cls d _ H => E cls d H) := fun u t ⟨b, G, sI, pins, σ, H, cls, d, e, I, r⟩ => ⟨b, G, sI, pins, σ, H, cls, d, e, suiteE_x I, r⟩
theorem ps_tryX (hs : X.stack = X.env :: X.outer) (hf : X.env.frame = some X.env.locals) (hN : X.N.Nodup) (hi : X.N[i]? = some n) (hln : X.env.kindOf n = some .local) (hc : Names X x c) (hpa : ∀ hd : Option Value, PassesOwnAt (model X.prog X.w) (X.A.mark hd) X.A X.env X.xe) (tk : L2.Takes X (fun cls d _ H => E cls d H))
    (hb : ∀ (W : WX) (pn : List (Addr × Obj)) (xe : Value → Shared → Prop), L2N.Takes (X.tr pn xe) W → PassesOwn (model X.prog X.w) X.A X.env xe → PSs (X.tr pn xe) body (tb W))
    (hsu : ∀ (a : Addr) (oe : Obj) (cls : Value) (d : Option Addr) (pn : List (Addr × Obj)), L2N.Zn cls d oe → (∃ vs, oe.data = .fields vs) → PSs (suiteE X E a ((a, oe) :: pn)) (b₀ :: suite) (ts a cls d)) :
    PS X (.Try body [.ExceptHandler (some (.Name x np)) (some n) (b₀ :: suite) pos'] [] [] pos) (fun D σ H => tb (wAs X.K c i ts (fun cls d _ H => E cls d H) D) D σ H) := by
  constructor
  intro pins s σ H D I0 h0
  have ok := I0.ok
  have hfr : X.A.frames = some (X.env :: X.outer) := ok.frames.trans (by rw [hs])
  have tries := (hb (wAs X.K c i ts (fun cls d _ H => E cls d H) D) (X.pn ++ pins) (fun e t => wpAny (model X.prog X.w) X.A (noteFrame e X.env) (fun _ t1 => wpAny (model X.prog X.w) X.A (setFlight e none) (fun _ t2 =>
    wpAny (model X.prog X.w) X.A (handleBy e X.env [.ExceptHandler (some (.Name x np)) (some n) (b₀ :: suite) pos']) (SP X pins D) X.xe t2) X.xe t1) X.xe t) (fun u t xx => ?met) PassesOwn.looking).run [] s σ H D (I0.toTry _) h0
  · refine wpAny_Try_except (wpAny_mono tries (fun f t ht => ?_) fun _ _ z => z)
    cases f with
    | next => exact ht.elim fun σ' w => w.elim fun H' w => wpAny_execs_nil ⟨σ', H', w.1.ofTry ok, w.2⟩
    | brk => exact ht.elim fun σ' w => w.elim fun H' w => ⟨σ', H', w.1.ofTry ok, w.2⟩
    | cont => exact ht.elim fun σ' w => w.elim fun H' w => ⟨σ', H', w.1.ofTry ok, w.2⟩
    | ret v => exact ht.elim fun y w => w.elim fun σ' w => w.elim fun H' w => ⟨y, σ', H', w.1.ofTry ok, w.2⟩
  · obtain ⟨a, G, tI, pj, τ, H1, cls, d, rfl, I1, nb, up, sky, na, os, ag, b, hm, hyes, hno⟩ := xx
    have J : Inv X pins τ H1 tI := I1.ofTry ok
    have skyX : Sky G (X.env :: X.outer) a (L2N.Zn cls d) X.env.locals t.heap := by rw [← hs]; exact sky
    show wpAny (model X.prog X.w) X.A (noteFrame (.ref a) X.env) _ _ t
    refine L2N.Sky.land L2N.Zn.steady hfr hf skyX fun h1 fl1 up1 => ?_
    have ups := up.trans up1
    -- at any heap where it lies on the ground
    have ground : ∀ {h : Heap}, HandSPX.FlyingZ G (X.env :: X.outer) a (L2N.Zn cls d) h → tI.heap.UpToSlots h →
        ∃ oe vs, h.get? a = some oe ∧ L2N.Zn cls d oe ∧ oe.data = .fields vs ∧ Inv (X.suite a ((a, oe) :: (X.pn ++ pins))) [] τ H1 { t with heap := h } := fun {h} fl u => by
      obtain ⟨oe, vs, g1, g2, g3⟩ := fl.there
      have Jh : Inv X pins τ H1 { t with heap := h } := J.landed nb fl.1 u os ag
      have nfr : a ∉ frs (X.env :: X.outer) := fun mem => by
        obtain ⟨_, o', q1, q2⟩ := fl.2.2.1.mem mem
        cases g1.symm.trans q1
        exact q2 _ g3
      exact ⟨oe, vs, g1, g2, g3, Jh.suite g1 g3 na (fun z => nfr (by rw [z]; exact List.mem_filterMap.mpr ⟨X.env, List.mem_cons_self, hf⟩)) fun mem => by
        obtain ⟨en, m1, m2⟩ := List.mem_filterMap.mp mem
        exact nfr (List.mem_filterMap.mpr ⟨en, List.mem_cons_of_mem _ m1, m2⟩)⟩
    obtain ⟨o1, v1, g1, z1, d1, S1⟩ := ground fl1 ups
    have lt : PySem.W.Looks (model X.prog X.w) h1 (typeOf (.ref a)) cls := fun A Q E s k q => wpAny_typeOf_ref (k _ _ g1) (z1.1.symm ▸ q)
    have lm := PySem.W.exm_one (M := model X.prog X.w) (J.landed nb fl1.1 ups os ag : Inv X pins τ H1 { t with heap := h1 }).kIn lt hm
    refine wpAny_handleBy_cons (codeAny_handlers_test ?_) (fun q => by cases q)
    have named : ∀ {Q E' : Value → Shared → Prop}, Q c { t with heap := h1 } → wpAny (model X.prog X.w) (X.A.mark (some (.ref a))) (eval (.Name x np) X.env) Q E' { t with heap := h1 } := fun {Q E'} q => by
      obtain ⟨y1, y2, y3 | y3⟩ := hc
      · exact ld_glob (X := X.suite a ((a, o1) :: (X.pn ++ pins))) S1 y1 y3 q y2
      · exact ld_blt (X := X.suite a ((a, o1) :: (X.pn ++ pins))) S1 y1 y3.1 y3.2.1 q y3.2.2 y2
    refine named (lm.here ?_)
    cases b with
    | false =>
      show wpAny _ X.A (handleBy (.ref a) X.env []) _ _ _
      refine wpAny_handleBy_nil ?_
      obtain ⟨k1, k2, k3, o, vs, T, oT, us, w1, w2, w3, w4, w5⟩ := id fl1
      have up0 : ∀ {h' : Heap}, HandSPX.HeldZ G (X.env :: X.outer) a (Zc cls d) X.env.locals h' → h1.UpToSlots h' → X.xe (.ref a) { t with heap := h' } := fun hd u =>
        tk _ _ ⟨a, G, tI, pins, τ, H1, cls, d, rfl, J, nb, ups.trans u, .inr (.inr (by rw [hs]; exact hd)), na, os, ag, hno rfl⟩
      unfold PySem.passOn
      refine wpAny_bind (wpAny_field w1 w3 w4 ?_)
      rw [if_neg (show ¬ ((Value.ref T == Value.none) = true) from by simp)]
      have fin : wpAny (model X.prog X.w) X.A (setFlight (.ref a) X.env.frame) (fun _ t2 => wpAny (model X.prog X.w) X.A (throw (.ref a) : Sem Flow) (SP X pins D) X.xe t2) X.xe { t with heap := h1 } := by
        rw [hf]
        exact HandSPX.setFlight_upZ (L2H.flyingZ_imp (fun _ z => z.zc) fl1) fun h' hd u => wpAny_throw (up0 hd u)
      first
        | exact wpAny_bind (wpAny_pure (wpAny_bind fin))
        | exact wpAny_bind fin
    | true =>
      refine codeAny_handlers_suite_as (HandSPX.lands_againZ fl1 fun h2 fl2 up2 => ?_)
      obtain ⟨o2, v2, g2, z2, d2, S2⟩ := ground fl2 (ups.trans up2)
      have S2' : Inv (suiteE X E a ((a, o2) :: (X.pn ++ pins))) [] τ H1 { t with heap := h2 } := x_suiteE (L2H.suiteX_of S2)
      refine store_ok (X := suiteE X E a ((a, o2) :: (X.pn ++ pins))) (v := .ref a) S2' hN hi (.inl hln) rfl (fun t5 S5 => ?_) (.inr hln)
      refine wpAny_mono ((hsu a o2 cls d (X.pn ++ pins) z2 ⟨_, d2⟩).run [] t5 _ H1 _ S5 (hyes rfl a na)) (fun f t6 ht => ?_) (fun u6 t6 x6 => ?_)
      · have back : ∀ {τ6 : L2.St} {H6 : Hp} {Q : Shared → Prop}, Inv (suiteE X E a ((a, o2) :: (X.pn ++ pins))) [] τ6 H6 t6 → (∀ t7, Inv X pins (τ6.set i none) H6 t7 → Q t7) →
            wpAny (model X.prog X.w) X.A (do bindName X.env n .none; unbindBehindTheSuite X.env n pos') (fun _ t7 => Q t7) X.xe t6 := fun {τ6 H6 Q} S6 hq => gone_ok (L2H.unsuiteX (suiteE_x S6) ok) hN hi hln hq
        cases f with
        | next => exact ht.elim fun τ6 w => w.elim fun H6 w => back w.1 fun t7 J7 => ⟨_, _, J7, w.2⟩
        | brk => exact ht.elim fun τ6 w => w.elim fun H6 w => back w.1 fun t7 J7 => ⟨_, _, J7, w.2⟩
        | cont => exact ht.elim fun τ6 w => w.elim fun H6 w => back w.1 fun t7 J7 => ⟨_, _, J7, w.2⟩
        | ret v => exact ht.elim fun y w => w.elim fun τ6 w => w.elim fun H6 w => back w.1 fun t7 J7 => ⟨_, _, _, J7, w.2⟩
      · exact suite_out (q := (a, o2)) hs hf hN hi hln ok hfr tk (fun e t z => hpa (some (.ref a)) e t z) x6
end
/-! ### raise C(..) from n, in such a suite -/
/-- the record behind «from c»: field 3 is c, field 4 is True -/
def causeIn (h : Heap) (a : Addr) (c : Value) : Heap := (h.update a (Obj.mapFields (·.setIfInBounds 3 c))).update a (Obj.mapFields (·.setIfInBounds 4 (.bool true)))
theorem causeIn_far {h : Heap} {a b : Addr} {c : Value} (ne : b ≠ a) : (causeIn h a c).get? b = h.get? b :=
  (Heap.get?_update_other _ _ (Ne.symm ne)).trans (Heap.get?_update_other _ _ (Ne.symm ne))
theorem causeIn_here {h : Heap} {a : Addr} {c : Value} {o : Obj} {vs : Array Value} (e : h.get? a = some o) (d : o.data = .fields vs) :
    ∃ o2, (causeIn h a c).get? a = some o2 ∧ o2.cls = o.cls ∧ o2.dict = o.dict ∧ o2.data = .fields ((vs.setIfInBounds 3 c).setIfInBounds 4 (.bool true)) := by
  have d3 := Obj.data_mapFields d (·.setIfInBounds 3 c)
  have e3 := Heap.get?_update_self (Obj.mapFields (·.setIfInBounds 3 c)) e (Obj.isFreed_of_fields d3)
  have d4 := Obj.data_mapFields d3 (·.setIfInBounds 4 (.bool true))
  exact ⟨_, Heap.get?_update_self (Obj.mapFields (·.setIfInBounds 4 (.bool true))) e3 (Obj.isFreed_of_fields d4), by rw [Obj.cls_mapFields, Obj.cls_mapFields], by rw [HandSPX.dict_mapFields, HandSPX.dict_mapFields], d4⟩
section
variable {prog : Program} {w : World} {A : Around} {E : Value → Shared → Prop} {s : Shared}
/-- an exception's record is no class -/
theorem rec_noType {a : Addr} {o : Obj} {vs : Array Value} {Q : Bool → Shared → Prop} (e : s.heap.get? a = some o) (d : o.data = .fields vs) (q : Q false s) : wpAny (model prog w) A (isType (.ref a)) Q E s := by
  simp only [isType, loadHead]
  refine wpAny_bind (wpAny_loadPart e ?_)
  rw [d]
  exact wpAny_pure q
/-- such a record as what is raised, or as a cause -/
theorem rec_exc {a : Addr} {o : Obj} {vs : Array Value} {m : String} {Q : Value → Shared → Prop} (e : s.heap.get? a = some o) (d : o.data = .fields vs) (L : PySem.W.Looks (model prog w) s.heap (isSubtype o.cls (.type "BaseException")) true) (q : Q (.ref a) s) :
    wpAny (model prog w) A (excFromValue (.ref a) m) Q E s := by
  have ty : PySem.W.Looks (model prog w) s.heap (typeOf (.ref a)) o.cls := fun _ _ _ _ k q => wpAny_typeOf_ref (k _ _ e) q
  have is : PySem.W.Looks (model prog w) s.heap (isInstance (.ref a) (.type "BaseException")) true := ty.andThen L
  unfold excFromValue isExcClass
  refine wpAny_bind (wpAny_bind (rec_noType e d ?_))
  simp only [Bool.false_eq_true, if_false]
  refine wpAny_pure ?_
  simp only [Bool.false_eq_true, if_false]
  refine wpAny_bind (is.here ?_)
  simp only [if_true]
  exact wpAny_pure q
theorem raise_from {env : Env} {x c : Sem Value} {Q : Flow → Shared → Prop} {x1 : Addr}
    (h : wpAny (model prog w) A x (fun v s1 => ∃ a oe vs o1 v1, v = .ref a ∧ s1.heap.get? a = some oe ∧ oe.data = .fields vs ∧ vs[1]? = some .none ∧ 4 < vs.size ∧ s1.heap.get? x1 = some o1 ∧ o1.data = .fields v1 ∧ v1[2]? = some .none ∧ A.handled = some (.ref x1) ∧ x1 ≠ a ∧
      (∀ (h : Heap), (∀ b o, b ≠ a → s1.heap.get? b = some o → h.get? b = some o) → PySem.W.Looks (model prog w) h (isSubtype oe.cls (.type "BaseException")) true ∧ PySem.W.Looks (model prog w) h (isSubtype o1.cls (.type "BaseException")) true ∧ PySem.W.Looks (model prog w) h (typeOf oe.cls) (.type "type")) ∧
      (∀ Q' : Value → Shared → Prop, Q' (.ref x1) s1 → wpAny (model prog w) A c Q' E s1) ∧
      E (.ref a) { s1 with heap := (causeIn s1.heap a (.ref x1)).update a (Obj.mapFields (·.setIfInBounds 2 (.ref x1))) }) E s) : wpAny (model prog w) A (raiseStmt env (some x) (some c)) Q E s := by
  unfold raiseStmt
  dsimp only
  refine wpAny_bind (wpAny_mono h (fun v s1 hv => ?_) fun _ _ z => z)
  obtain ⟨a, oe, vs, o1, v1, rfl, ha, hd, h1, hsz, hx1, dx1, n1, hh, ne, lk, hc, out⟩ := hv
  refine wpAny_bind (wpAny_holding (hc _ (wpAny_bind (wpAny_pure ?_))))
  dsimp only
  obtain ⟨L1, _, _⟩ := lk s1.heap fun _ _ _ z => z
  refine wpAny_bind (wpAny_holding (rec_exc ha hd L1 ?_))
  have L2 := (lk s1.heap fun _ _ _ z => z).2.1
  have d3 := Obj.data_mapFields hd (·.setIfInBounds 3 (Value.ref x1))
  have e3 := Heap.get?_update_self (Obj.mapFields (·.setIfInBounds 3 (Value.ref x1))) ha (Obj.isFreed_of_fields d3)
  have s3 : 3 < vs.size := by omega
  have s4 : 4 < (vs.setIfInBounds 3 (Value.ref x1)).size := by rw [set_size]; exact hsz
  obtain ⟨o2, e2, c2, _, d2⟩ := causeIn_here (c := Value.ref x1) ha hd
  have near : ∀ b o, b ≠ a → s1.heap.get? b = some o → (causeIn s1.heap a (.ref x1)).get? b = some o := fun b o z y => (causeIn_far z).trans y
  obtain ⟨M1, M2, M3⟩ := lk _ near
  have n2 : ((vs.setIfInBounds 3 (Value.ref x1)).setIfInBounds 4 (Value.bool true))[1]? = some Value.none := set_other (by decide) (set_other (by decide) h1)
  have z2 : 2 < ((vs.setIfInBounds 3 (Value.ref x1)).setIfInBounds 4 (Value.bool true)).size := by rw [set_size, set_size]; omega
  have hot : HotAt A x1 (causeIn s1.heap a (.ref x1)) := ⟨hh, o1, v1, near _ _ ne hx1, dx1, n1⟩
  have last : wpAny (model prog w) A (do
      let b ← isType (.ref a)
      if b = true then do
        let e ← holding [.ref a] (raisedFor (.ref a) (.ref a))
        setFlight e none
        raiseNew e
      else do
        let e ← raisedInstance (.ref a)
        setFlight e none
        raiseNew e : Sem Flow) Q E { s1 with heap := causeIn s1.heap a (.ref x1) } := by
    refine wpAny_bind (rec_noType e2 d2 ?_)
    simp only [Bool.false_eq_true, if_false]
    have ty : PySem.W.Looks (model prog w) (causeIn s1.heap a (.ref x1)) (typeOf (.ref a)) oe.cls := fun _ _ _ _ k q => wpAny_typeOf_ref (k _ _ e2) (by rw [c2]; exact q)
    unfold raisedInstance
    refine wpAny_bind (wpAny_bind (ty.here (wpAny_bind (M3.here ?_))))
    rw [if_pos (beq_self_eq_true _)]
    refine wpAny_pure ?_
    unfold setFlight
    refine wpAny_bind (wpAny_bind (wpAny_field e2 d2 n2 ?_))
    rw [if_neg (by decide)]
    exact wpAny_pure (raiseNew_hot hot ne e2 d2 z2 out)
  first
  | rw [if_neg (show ¬ ((Value.ref x1 == Value.none) = true) from by simp)]
  | (show wpAny _ _ (if (Value.ref x1 == Value.none) = true then _ else _) _ _ _; rw [if_neg (show ¬ ((Value.ref x1 == Value.none) = true) from by simp)])
  | simp only [show (Value.ref x1 == Value.none) = false from by simp, Bool.false_eq_true, if_false]
  first
  | refine wpAny_bind (wpAny_holding (rec_exc hx1 dx1 L2 (wpAny_bind (wpAny_setField ha hd s3 (wpAny_bind (wpAny_setField e3 d3 s4 ?_))))))
  | refine wpAny_bind (wpAny_holding (rec_exc hx1 dx1 L2 (wpAny_bind (wpAny_bind (wpAny_setField ha hd s3 (wpAny_setField e3 d3 s4 ?_))))))
  | refine wpAny_bind (wpAny_bind (wpAny_holding (rec_exc hx1 dx1 L2 (wpAny_bind (wpAny_setField ha hd s3 (wpAny_setField e3 d3 s4 ?_))))))
  first
  | exact last
  | (dsimp only; exact last)
end
def tRzF (K : PySem.W.Frag) (t : L2.St → Hp → XK → Prop) (i : Nat) (a : Addr) (cls : Value) (E : XK) : TS := fun _ σ H => PySem.W.subIn K cls (.type "BaseException") = some true ∧ t σ H fun c d H' => σ[i]? = some (some (.ref a)) ∧ E c d H'
theorem ps_rzF {Y : Cx} {E : XK} {a : Addr} {oe : Obj} {cls : Value} {d : Option Addr} {pn : List (Addr × Obj)} {e : Expr} {t : L2.St → Hp → XK → Prop} {n : Str} {i : Nat} {np pos : Pos} (z : L2N.Zn cls d oe) (hv : ∃ vs, oe.data = .fields vs) (hi : (suiteE Y E a ((a, oe) :: pn)).N[i]? = some n) (hln : (suiteE Y E a ((a, oe) :: pn)).env.kindOf n = some .local)
    (he : PMkN (suiteE Y E a ((a, oe) :: pn)) e t) (hdb : (n == ("__debug__" : Str)) = false := by decide) : PS (suiteE Y E a ((a, oe) :: pn)) (.Raise (some e) (some (.Name n np)) pos) (tRzF Y.K t i a cls E) := by
  constructor
  intro pins s σ H D I h
  obtain ⟨v1, dv⟩ := hv
  obtain ⟨sb, h⟩ := h
  refine wpAny_bind (wpAny_standAt (raise_from (x1 := a) (wpAny_bind (wpAny_mono (he pins s σ H _ I h) (fun u s1 hu => wpAny_bind (wpAny_standAt (wpAny_pure ?_))) fun _ _ y => y))))
  obtain ⟨⟨b, o1, vs, sI, H1, c1, d1, rfl, J, k, hne, hb, hz, hd, h1, na, os, ag, rs, hs, q⟩, h5⟩ := hu
  have pa : sI.heap.get? a = some oe := (J.pin (a, oe) (List.mem_append_left _ List.mem_cons_self)).1
  have ne : a ≠ b := fun y => by
    rw [y, hne] at pa
    cases pa
  have far : ∀ c u, sI.heap.get? c = some u → c ≠ b := fun c u y w => by
    rw [w, hne] at y
    cases y
  obtain ⟨m, ⟨oL, es, ep, gL, rL⟩, lk⟩ := id J.loc
  refine ⟨b, o1, vs, oe, v1, rfl, hb, hd, h1, h5 b o1 vs rfl hb hd, k _ _ pa, dv, z.2.2 _ dv, rfl, ne, fun h2 f2 => ?_, fun Q2 q2 => ?_, ?_⟩
  · have In2 : Y.K.In h2 := J.kIn.keeps fun c u y => f2 c u (far c u y) (k c u y)
    obtain ⟨r1, r2⟩ := rs (model Y.prog Y.w) h2 In2
    exact ⟨by rw [hz.1]; exact r1, by rw [z.1]; exact PySem.W.looks_subIn In2 sb, by rw [hz.1]; exact r2⟩
  · obtain ⟨u, ru, l⟩ := lk i n (.ref a) hi hs (.inl hln)
    obtain rfl : u = Value.ref a := ru
    rcases l with ⟨_, l⟩ | ⟨l, _⟩
    · exact wpAny_bind (wpAny_Name (wpAny_loadName_local J.ok.kind hln ⟨oL, es, ep, k _ _ gL, rL⟩ l (wpAny_bind (wpAny_standAt (wpAny_pure q2)))) hdb)
    · have l' : (suiteE Y E a ((a, oe) :: pn)).env.kindOf n = some .cell ∨ (suiteE Y E a ((a, oe) :: pn)).env.kindOf n = some .free := l
      rw [hln] at l'
      rcases l' with l' | l' <;> cases l'
  · obtain ⟨o2, e2, c2, p2, d2⟩ := causeIn_here (c := Value.ref a) hb hd
    have d6 := Obj.data_mapFields d2 (·.setIfInBounds 2 (Value.ref a))
    refine takes_suiteE _ _ (L2.XE.new (oe := o2.mapFields (·.setIfInBounds 2 (Value.ref a))) (cls := c1) (d := d1) J (fun c u y => ?_) hne (Heap.get?_update_self _ e2 (Obj.isFreed_of_fields d6)) ⟨by rw [Obj.cls_mapFields, c2]; exact hz.1, by rw [HandSPX.dict_mapFields, p2]; exact hz.2.1⟩ d6 (set_other (by decide) (set_other (by decide) (set_other (by decide) h1))) na os ag q)
    exact (Heap.get?_update_other _ _ (Ne.symm (far c u y))).trans ((causeIn_far (far c u y)).trans (k c u y))
section
variable {X : Cx} {x n : Str} {c : Value} {i : Nat} {body suite : List Stmt} {b₀ : Stmt} {np pos pos' : Pos} {tb : WX → TS} {ts : Addr → Value → Option Addr → TS} {E : XK}
theorem ps_tryXK (hs : X.stack = X.env :: X.outer) (hf : X.env.frame = some X.env.locals) (hN : X.N.Nodup) (hi : X.N[i]? = some n) (hln : X.env.kindOf n = some .local) (hc : Names X x c) (hpa : ∀ hd : Option Value, PassesOwnAt (model X.prog X.w) (X.A.mark hd) X.A X.env X.xe) (tk : L2.Takes X (fun cls d _ H => E cls d H))
    (hb : ∀ (W : WX) (pn : List (Addr × Obj)) (xe : Value → Shared → Prop), L2N.Takes (X.tr pn xe) W → PassesOwn (model X.prog X.w) X.A X.env xe → PSs (X.tr pn xe) body (tb W))
    (hsu : ∀ (a : Addr) (oe : Obj) (cls : Value) (d : Option Addr) (pn : List (Addr × Obj)), L2N.Zn cls d oe → (∃ vs, oe.data = .fields vs) → PSs (suiteE X E a ((a, oe) :: pn)) (b₀ :: suite) (ts a cls d)) :
    PS X (.Try body [.ExceptHandler (some (.Name x np)) (some n) (b₀ :: suite) pos'] [] [] pos) (tTry tb X.K c i ts (fun cls d _ H => E cls d H)) := ps_tryX hs hf hN hi hln hc hpa tk hb hsu
end
section
variable {K : PySem.W.Frag} {H : Hp} {σ : L2.St} {i : Nat} {a : Addr} {cls : Value} {d : Option Addr} {c : Value} {ts : Addr → Value → Option Addr → TS} {Wout : WX} {D : Ends} {E : XK} {N B C : L2.St → Hp → Prop} {R : VK} {ta : TA} {f : Str} {fs : List Str}
theorem rd_wasNo (hb : PySem.W.exmOne K cls c = some false) (k : Wout cls d σ H) : WE (wAs K c i ts Wout D) σ cls d H := ⟨false, hb, fun z => (by cases z), fun _ => k⟩
theorem rd_rzF (sb : PySem.W.subIn K cls (.type "BaseException") = some true) (k : ta σ H (eK K f fs fun c d H' => σ[i]? = some (some (.ref a)) ∧ E c d H')) : tRzF K (tErr (He.ga K f) fs ta) i a cls E ⟨N, R, B, C⟩ σ H := ⟨sb, k⟩
end
theorem room_mark {k : Nat} {A : Around} {h : Option Value} (r : Room k A) : L2H.RoomH k (A.mark h) := ⟨r.dp, r.un⟩
theorem room_h {k : Nat} {A : Around} (r : Room k A) : L2H.RoomH k A := ⟨r.dp, r.un⟩
def exnB (K : PySem.W.Frag) (x y : Str) : Bool := decide (PySem.W.exmOne K (.ref (He.ga K x)) (.ref (He.ga K y)) = some false)
theorem exnB_ok {K : PySem.W.Frag} {x y : Str} (h : exnB K x y = true) : PySem.W.exmOne K (.ref (He.ga K x)) (.ref (He.ga K y)) = some false := of_decide_eq_true h
/-! ### errors of two kinds -/
def exM {ε δ α : Type} (f : ε → δ) : Except ε α → Except δ α
  | .ok a => .ok a
  | .error e => .error (f e)
theorem exB_errM {ε δ α β : Type} {f : ε → δ} {t : Except ε α} {e : ε} {k : α → Option (Except δ β)} {r : Except δ β} (ee : t = .error e) (h : exB (exM f t) k = some r) : r = .error (f e) := by
  subst ee
  exact (Option.some.inj h).symm
theorem suml {α β γ : Type} {f : α → γ} {g : β → γ} {x : α} {r : γ} (h : Sum.elim f g (.inl x) = r) : f x = r := h
theorem sumr {α β γ : Type} {f : α → γ} {g : β → γ} {x : β} {r : γ} (h : Sum.elim f g (.inr x) = r) : g x = r := h
theorem cxUpN {P : Program} {w : World} : StX.CXUp (L2N.CX P w) := by
  intro ou s H t H2 E u t' un kp ho z
  obtain ⟨a, G, H1, c, d, ea, fl, hok, ub, na, os, ag, he⟩ := z
  have fr : ∀ {b : Addr} {o : Obj}, s.heap.get? b = some o → H b = none → H2 b = none := fun q n => un.free _ _ q n (fun z => by cases z)
  refine ⟨a, G, H1, c, d, ea, fl, hok, { keep := fun b o q n hb => ub.keep b o (kp b o q) (fr q n) hb, slot := fun b o q hb => ub.slot b o (kp b o q) hb, free := fun b o q n => ub.free b o (kp b o q) (fr q n), there := fun b o q hb => ub.there b o (kp b o q) hb, tups := fun b xs q => ub.tups b xs (un.tups b xs q), frzs := fun b o xs q => ub.frzs b o xs (un.frzs b o xs q), tbls := fun b ps q => ?_ }, na, os.trans ho, ag, he⟩
  obtain ⟨m1, e1⟩ := un.tbls b ps q
  obtain ⟨m2, e2⟩ := ub.tbls b _ e1
  exact ⟨m1 ++ m2, by rw [e2, Array.append_assoc]⟩
end Gl
namespace Gl
open PySem PySem.Spec PyProof.Rows L2
/-! ## plain mathematics: results that are there -/
def Ok {α : Type} (x : Option α) (Q : α → Prop) : Prop := ∃ a, x = some a ∧ Q a
section
variable {α β S ρ : Type} {x y : Option α} {P Q : α → Prop} {f : α → Option β} {R : β → Prop} {a : α} {b : Bool}
theorem Ok.sm (h : Q a) : Ok (some a) Q := ⟨a, rfl, h⟩
theorem Ok.bd (h : Ok x P) (k : ∀ a, P a → Ok (f a) R) : Ok (x.bind f) R := by
  obtain ⟨a, rfl, p⟩ := h
  exact k a p
theorem Ok.bde (h : x = some a) (k : Ok (f a) R) : Ok (x.bind f) R := by
  rw [h]; exact k
theorem Ok.gd (h : b = true) (k : Ok x Q) : Ok (gd b x) Q := by rw [gd_true h]; exact k
theorem Ok.ite (h1 : b = true → Ok x Q) (h2 : b = false → Ok y Q) : Ok (if b = true then x else y) Q := by
  cases b with
  | true => exact h1 rfl
  | false => exact h2 rfl
theorem Ok.mono (h : Ok x P) (k : ∀ a, P a → Q a) : Ok x Q := let ⟨a, e, p⟩ := h; ⟨a, e, k a p⟩
theorem Ok.eq {a : α} (h : Ok x fun r => r = a) : x = some a := let ⟨b, e, p⟩ := h; p ▸ e
theorem Ok.of (h : x = some a) (k : Q a) : Ok x Q := ⟨a, h, k⟩
/-- a loop: what holds ahead of each item -/
theorem Ok.loop {f : α → S → Option S} {xs : List α} {s0 : S} (I : List α → S → Prop) (h0 : I [] s0) (hs : ∀ pre x post s, xs = pre ++ x :: post → I pre s → Ok (f x s) (I (pre ++ [x]))) : Ok (loopS f xs s0) (I xs) := by
  have key : ∀ (post pre : List α) (s : S), xs = pre ++ post → I pre s → Ok (loopS f post s) (I xs) := by
    intro post
    induction post with
    | nil => intro pre s e h; rw [List.append_nil] at e; subst e; exact ⟨s, rfl, h⟩
    | cons x post ih =>
      intro pre s e h
      obtain ⟨s', e1, h1⟩ := hs pre x post s e h
      obtain ⟨r, e2, h2⟩ := ih (pre ++ [x]) s' (by rw [e]; simp) h1
      exact ⟨r, by show (f x s).bind _ = _; rw [e1]; exact e2, h2⟩
  exact key xs [] s0 rfl h0
/-- a loop that never leaves -/
theorem Ok.loopN {f : α → S → Option (Ctl S ρ)} {xs : List α} {s0 : S} (I : List α → S → Prop) (h0 : I [] s0) (hs : ∀ pre x post s, xs = pre ++ x :: post → I pre s → Ok (f x s) fun c => ∃ s', c = .nx s' ∧ I (pre ++ [x]) s') : Ok (loopC f xs s0) fun c => ∃ s', c = .nx s' ∧ I xs s' := by
  have key : ∀ (post pre : List α) (s : S), xs = pre ++ post → I pre s → Ok (loopC f post s) fun c => ∃ s', c = .nx s' ∧ I xs s' := by
    intro post
    induction post with
    | nil => intro pre s e h; rw [List.append_nil] at e; subst e; exact ⟨_, rfl, s, rfl, h⟩
    | cons x post ih =>
      intro pre s e h
      obtain ⟨_, e1, s', rfl, h1⟩ := hs pre x post s e h
      obtain ⟨r, e2, h2⟩ := ih (pre ++ [x]) s' (by rw [e]; simp) h1
      exact ⟨r, by show (f x s).bind _ = _; rw [e1]; exact e2, h2⟩
  exact key xs [] s0 rfl h0
/-- a loop that may return: it holds ahead of each item unless it has returned -/
theorem Ok.loopR {f : α → S → Option (Ctl S ρ)} {xs : List α} {s0 : S} (I : List α → S → Prop) (T : ρ → Prop) (h0 : I [] s0) (hs : ∀ pre x post s, xs = pre ++ x :: post → I pre s → Ok (f x s) fun c => (∃ s', c = .nx s' ∧ I (pre ++ [x]) s') ∨ ∃ r, c = .rt r ∧ T r) : Ok (loopC f xs s0) fun c => (∃ s', c = .nx s' ∧ I xs s') ∨ ∃ r, c = .rt r ∧ T r := by
  have key : ∀ (post pre : List α) (s : S), xs = pre ++ post → I pre s → Ok (loopC f post s) fun c => (∃ s', c = .nx s' ∧ I xs s') ∨ ∃ r, c = .rt r ∧ T r := by
    intro post
    induction post with
    | nil => intro pre s e h; rw [List.append_nil] at e; subst e; exact ⟨_, rfl, .inl ⟨s, rfl, h⟩⟩
    | cons x post ih =>
      intro pre s e h
      obtain ⟨_, e1, ⟨s', rfl, h1⟩ | ⟨r, rfl, h1⟩⟩ := hs pre x post s e h
      · obtain ⟨r, e2, h2⟩ := ih (pre ++ [x]) s' (by rw [e]; simp) h1
        exact ⟨r, by show (f x s).bind _ = _; rw [e1]; exact e2, h2⟩
      · exact ⟨.rt r, by show (f x s).bind _ = _; rw [e1]; rfl, .inr ⟨r, rfl, h1⟩⟩
  exact key xs [] s0 rfl h0
/-- a comprehension without a state -/
theorem comp_pure {f : α → Unit → Option (Option β × Unit)} {g : α → Option β} : ∀ {xs : List α}, (∀ x ∈ xs, f x () = some (g x, ())) → comp f xs () = some (xs.filterMap g, ())
  | [], _ => rfl
  | x :: xs, h => by
    show (f x ()).bind _ = _
    rw [h x List.mem_cons_self]
    show ((comp f xs ()).bind fun r => some (match g x with
      | some y => (y :: r.1, r.2)
      | none => r)) = _
    rw [comp_pure fun y hy => h y (List.mem_cons_of_mem _ hy), List.filterMap_cons]
    cases g x <;> rfl
end
/-! ### texts as rows of numbers -/
def cl (s : Str) : List Nat := s.cps.toList
theorem cl_inj {a b : Str} (h : cl a = cl b) : a = b := by
  obtain ⟨a⟩ := a; obtain ⟨b⟩ := b
  exact congrArg Str.mk (Array.toList_inj.mp h)
theorem cl_len (s : Str) : s.length = (cl s).length := (Array.length_toList).symm
theorem cl_app (a b : Str) : cl (a ++ b) = cl a ++ cl b := Array.toList_append
theorem cl_sg (c : Nat) : cl ⟨#[c]⟩ = [c] := rfl
theorem sgns_cl (s : Str) : sgns s = (cl s).map fun c => ⟨#[c]⟩ := rfl
theorem cl_cut (z : Str) (lo hi : Option Int) : cl (cutS z lo hi) = cut (cl z) lo hi := by
  unfold cl cutS cut
  rw [List.toList_toArray]
  show _ = List.take (HT.sIx z.cps.toList.length z.cps.toList.length hi - HT.sIx z.cps.toList.length 0 lo) (List.drop (HT.sIx z.cps.toList.length 0 lo) z.cps.toList)
  rw [Array.length_toList]
  rfl
theorem sIx_nn {n d : Nat} {k : Int} (h : 0 ≤ k) : HT.sIx n d (some k) = min k.toNat n := by
  obtain ⟨m, rfl⟩ := Int.eq_ofNat_of_zero_le h
  rw [HT.sIx_nat]; rfl
theorem cut_to {α : Type} (xs : List α) {k : Int} (h : 0 ≤ k) : cut xs none (some k) = xs.take k.toNat := by
  unfold cut
  rw [HT.sIx_none, sIx_nn h, List.drop_zero, Nat.sub_zero]
  rcases Nat.le_total k.toNat xs.length with e | e
  · rw [Nat.min_eq_left e]
  · rw [Nat.min_eq_right e, List.take_of_length_le (Nat.le_refl _), List.take_of_length_le e]
theorem cut_from {α : Type} (xs : List α) {k : Int} (h : 0 ≤ k) : cut xs (some k) none = xs.drop k.toNat := by
  unfold cut
  rw [HT.sIx_none, sIx_nn h]
  rcases Nat.le_total k.toNat xs.length with e | e
  · rw [Nat.min_eq_left e, List.take_of_length_le]; rw [List.length_drop]; omega
  · rw [Nat.min_eq_right e, Nat.sub_self, List.take_zero, List.drop_of_length_le e]
theorem cut_mid {α : Type} (xs : List α) {a b : Int} (h : 0 ≤ a) (h2 : a ≤ b) : cut xs (some a) (some b) = (xs.drop a.toNat).take (b.toNat - a.toNat) := by
  unfold cut
  rw [sIx_nn h, sIx_nn (by omega)]
  rcases Nat.le_total a.toNat xs.length with e | e
  · rw [Nat.min_eq_left e]
    rcases Nat.le_total b.toNat xs.length with e2 | e2
    · rw [Nat.min_eq_left e2]
    · rw [Nat.min_eq_right e2, List.take_of_length_le (by rw [List.length_drop]; omega), List.take_of_length_le (by rw [List.length_drop]; omega)]
  · rw [Nat.min_eq_right e, List.drop_of_length_le e, List.drop_of_length_le (Nat.le_refl _)]; simp
theorem atI_nn {α : Type} {xs : List α} {i : Int} (h : 0 ≤ i) (h2 : i < xs.length) : atI xs i = xs[i.toNat]? := by
  unfold atI ixN
  rw [if_pos h, if_pos h2]; rfl
theorem atI_last {α : Type} {xs : List α} {a : α} : atI (xs ++ [a]) (-1) = some a := by
  unfold atI ixN
  rw [if_neg (by decide), if_pos (by simp; omega)]
  show (xs ++ [a])[((-1 : Int) + ((xs ++ [a]).length : Nat)).toNat]? = _
  have e : ((-1 : Int) + ((xs ++ [a]).length : Nat)).toNat = xs.length := by simp; omega
  rw [e]; simp
theorem ixS_ok {s : Str} {i : Int} (h : 0 ≤ i) (h2 : i < s.length) (h3 : s.length ≤ sizeLine) : Ok (ixS s i) fun z => ∃ c, (cl s)[i.toNat]? = some c ∧ z = ⟨#[c]⟩ := by
  unfold ixS
  refine Ok.gd (by unfold fitsS; exact decide_eq_true h3) ?_
  rw [atI_nn h (by rw [Array.length_toList]; exact h2)]
  have hl : i.toNat < (cl s).length := by rw [← cl_len]; omega
  refine Ok.bde (a := (cl s)[i.toNat]) (by show (cl s)[i.toNat]? = _; simp [hl]) ?_
  exact Ok.sm ⟨_, by simp [hl], rfl⟩
theorem sizeLine_big : (16000000 : Nat) ≤ sizeLine := by rw [sizeLine_eq]; decide
theorem fitsS_ok {s : Str} (h : s.length ≤ 16000000) : fitsS s = true := decide_eq_true (Nat.le_trans h sizeLine_big)
theorem fits_ok {α : Type} {s : List α} (h : s.length < 16000000) : fits s = true := decide_eq_true (Nat.lt_of_lt_of_le h sizeLine_big)
theorem fitsE_ok {α : Type} {s : List α} (h : s.length ≤ 16000000) : fitsE s = true := decide_eq_true (Nat.le_trans h sizeLine_big)
theorem fits2_ok {α : Type} {s t : List α} (h : s.length + t.length ≤ 16000000) : fits2 s t = true := decide_eq_true (Nat.le_trans h sizeLine_big)
theorem catOk_ok {s t : Str} (h : s.length + t.length ≤ 16000000) : catOk s t = true := decide_eq_true (Nat.le_trans h sizeLine_big)
theorem rgOk_ok {a b : Int} (h : -16000000 ≤ a) (h2 : a ≤ 16000000) (h3 : -16000000 ≤ b) (h4 : b ≤ 16000000) : rgOk a b = true := by
  unfold rgOk
  rw [decide_eq_true (show -(2 ^ 62) ≤ a by omega), decide_eq_true (show a < 2 ^ 62 by omega), decide_eq_true (show -(2 ^ 62) ≤ b by omega), decide_eq_true (show b < 2 ^ 62 by omega)]; rfl
theorem mulOk_l {a b : Int} (h : -(2 ^ 64) < a) (h2 : a < 2 ^ 64) : mulOk a b = true := by
  unfold mulOk; rw [decide_eq_true h, decide_eq_true h2]; rfl
theorem mulOk_r {a b : Int} (h : -(2 ^ 64) < b) (h2 : b < 2 ^ 64) : mulOk a b = true := by
  unfold mulOk; rw [decide_eq_true h, decide_eq_true h2]; simp
theorem modOk_ok {a : Int} (h : 0 < a) : modOk a = true := decide_eq_true h
theorem divOk_ok {a : Int} (h : 0 < a) (h2 : a < 1073741824) : divOk a = true := by
  unfold divOk; rw [decide_eq_true h, decide_eq_true h2]; rfl
theorem rng_mem {a b i : Int} : i ∈ rng a b ↔ a ≤ i ∧ i < b := by
  unfold rng
  rw [List.mem_map]
  constructor
  · rintro ⟨j, hj, rfl⟩
    rw [List.mem_range] at hj
    omega
  · intro ⟨h1, h2⟩
    exact ⟨(i - a).toNat, by rw [List.mem_range]; omega, by omega⟩
theorem rng_len (a b : Int) : (rng a b).length = (b - a).toNat := by unfold rng; simp
theorem rng_at {a b : Int} {pre post : List Int} {x : Int} (h : rng a b = pre ++ x :: post) : x = a + pre.length ∧ pre = rng a x ∧ a ≤ x ∧ x < b := by
  have hx : x ∈ rng a b := by rw [h]; simp
  rw [rng_mem] at hx
  have hg : (rng a b)[pre.length]? = some x := by rw [h]; simp
  have hl : pre.length < (b - a).toNat := by
    have := congrArg List.length h
    rw [rng_len] at this
    simp at this
    omega
  have hx2 : x = a + pre.length := by
    unfold rng at hg
    rw [List.getElem?_map, List.getElem?_range hl] at hg
    exact (Option.some.inj hg).symm
  refine ⟨hx2, ?_, hx⟩
  have e : pre = (rng a b).take pre.length := by rw [h]; simp
  rw [e]
  unfold rng
  rw [← List.map_take, List.take_range]
  congr 2
  rw [hx2]; omega
/-! ### == of data: the sides are small -/
def okS (s : Str) : Prop := PyData.strOk s = true
theorem canAll {α : Type} {A : R α} (D : Dat A) : ∀ {xs : List α}, (∀ x ∈ xs, (D.d x).canLay0 = true) → PyData.canLayAll0 (xs.map D.d) = true
  | [], _ => rfl
  | x :: xs, h => by
    show ((D.d x).canLay0 && PyData.canLayAll0 (xs.map D.d)) = true
    rw [h x List.mem_cons_self, canAll D fun y hy => h y (List.mem_cons_of_mem _ hy)]; rfl
theorem depAll {α : Type} {A : R α} (D : Dat A) {n : Nat} : ∀ {xs : List α}, (∀ x ∈ xs, (D.d x).depth ≤ n) → PyData.depthAll (xs.map D.d) ≤ n
  | [], _ => Nat.zero_le _
  | x :: xs, h => by
    show max (D.d x).depth (PyData.depthAll (xs.map D.d)) ≤ n
    exact Nat.max_le.mpr ⟨h x List.mem_cons_self, depAll D fun y hy => h y (List.mem_cons_of_mem _ hy)⟩
theorem shp_of {α : Type} {A : R α} {D : Dat A} {a : α} (h : (D.d a).canLay0 = true) (h2 : (D.d a).depth ≤ 64) : shp D a = true := by
  show ((D.d a).canLay0 && decide ((D.d a).depth ≤ 64)) = true
  rw [h, decide_eq_true h2]; rfl
theorem shp_lS {xs : List Str} (h : ∀ x ∈ xs, okS x) : shp (dL dS) xs = true := shp_of (canAll dS h) (Nat.succ_le_of_lt (Nat.lt_of_le_of_lt (depAll dS (n := 0) fun _ _ => Nat.le_refl _) (by decide)))
theorem shp_lI (xs : List Int) : shp (dL dI) xs = true := shp_of (canAll dI fun _ _ => rfl) (Nat.succ_le_of_lt (Nat.lt_of_le_of_lt (depAll dI (n := 0) fun _ _ => Nat.le_refl _) (by decide)))
/-! ### shapes, by classes -/
class ShpD {α : Type} {A : R α} (D : Dat A) where
  ok : α → Prop
  n : Nat
  can : ∀ a, ok a → (D.d a).canLay0 = true
  dep : ∀ a, (D.d a).depth ≤ n
class ShpR {α : Type} {B : RR α} (E : DatR B) where
  ok : α → Prop
  n : Nat
  can : ∀ a, ok a → PyData.canLayAll0 (E.d a) = true
  dep : ∀ a, PyData.depthAll (E.d a) ≤ n
instance sI : ShpD dI := ⟨fun _ => True, 0, fun _ _ => rfl, fun _ => Nat.le_refl _⟩
instance sB : ShpD dB := ⟨fun _ => True, 0, fun _ _ => rfl, fun _ => Nat.le_refl _⟩
instance sS : ShpD dS := ⟨okS, 0, fun _ h => h, fun _ => Nat.le_refl _⟩
instance sL {α : Type} {A : R α} {D : Dat A} [i : ShpD D] : ShpD (dL D) := ⟨fun xs => ∀ x ∈ xs, i.ok x, i.n + 1, fun xs h => canAll D fun x hx => i.can x (h x hx), fun xs => by
  show PyData.depthAll (xs.map D.d) + 1 ≤ _
  have := depAll D (n := i.n) (xs := xs) fun x _ => i.dep x
  omega⟩
instance sT {α : Type} {A : R α} {D : Dat A} [i : ShpD D] : ShpD (dT D) := ⟨fun xs => ∀ x ∈ xs, i.ok x, i.n + 1, fun xs h => canAll D fun x hx => i.can x (h x hx), fun xs => by
  show PyData.depthAll (xs.map D.d) + 1 ≤ _
  have := depAll D (n := i.n) (xs := xs) fun x _ => i.dep x
  omega⟩
instance s2 {α β : Type} {A : R α} {B : R β} {D : Dat A} {E : Dat B} [i : ShpD D] [j : ShpD E] : ShpD (d2 D E) := ⟨fun a => i.ok a.1 ∧ j.ok a.2, max i.n j.n + 1, fun a h => by
  show ((D.d a.1).canLay0 && ((E.d a.2).canLay0 && true)) = true
  rw [i.can _ h.1, j.can _ h.2]; rfl, fun a => by
  show max (D.d a.1).depth (max (E.d a.2).depth 0) + 1 ≤ _
  have h1 := i.dep a.1
  have h2 := j.dep a.2
  omega⟩
def optOk {α : Type} (P : α → Prop) : Option α → Prop
  | none => True
  | some a => P a
instance sO {α : Type} {A : R α} {D : Dat A} [NotNone D] [i : ShpD D] : ShpD (dO D) := ⟨optOk i.ok, i.n, fun a h => by
  cases a with
  | none => rfl
  | some a => exact i.can a h, fun a => by
  cases a with
  | none => exact Nat.zero_le _
  | some a => exact i.dep a⟩
instance sr1 {α : Type} {A : R α} {D : Dat A} [i : ShpD D] : ShpR (e1 D) := ⟨i.ok, i.n, fun a h => by
  show ((D.d a).canLay0 && true) = true
  rw [i.can _ h]; rfl, fun a => by
  show max (D.d a).depth 0 ≤ _
  have := i.dep a
  omega⟩
instance src {α β : Type} {A : R α} {B : RR β} {D : Dat A} {E : DatR B} [i : ShpD D] [j : ShpR E] : ShpR (ec D E) := ⟨fun a => i.ok a.1 ∧ j.ok a.2, max i.n j.n, fun a h => by
  show ((D.d a.1).canLay0 && PyData.canLayAll0 (E.d a.2)) = true
  rw [i.can _ h.1, j.can _ h.2]; rfl, fun a => by
  show max (D.d a.1).depth (PyData.depthAll (E.d a.2)) ≤ _
  have h1 := i.dep a.1
  have h2 := j.dep a.2
  omega⟩
instance sLr {α : Type} {B : RR α} {E : DatR B} [i : ShpR E] : ShpD (dLr E) := ⟨i.ok, i.n + 1, fun a h => i.can a h, fun a => Nat.succ_le_succ (i.dep a)⟩
instance sTr {α : Type} {B : RR α} {E : DatR B} [i : ShpR E] : ShpD (dTr E) := ⟨i.ok, i.n + 1, fun a h => i.can a h, fun a => Nat.succ_le_succ (i.dep a)⟩
end Gl
namespace Law
open PySem PySem.Spec PyProof.Rows L2 Gl
def top (i : Nat) : Stmt := PySem.Challenge.pw_gluedlines_k07_whole_pattern_texts_spoil.main.body.getD i (.Pass ⟨0, 0, 0, 0⟩)
abbrev s_Form___str__ : Stmt := inClass (top 26) 4
abbrev s_Both___str__ : Stmt := inClass (top 27) 1
abbrev s_Either___str__ : Stmt := inClass (top 28) 1
abbrev s_law_odd : Stmt := top 44
abbrev s_Pattern___eq__ : Stmt := inClass (top 25) 3
abbrev s_law_pool : Stmt := top 35
abbrev s_law_shown : Stmt := top 41
abbrev s_law_take : Stmt := top 36
abbrev s_law_sign : Stmt := top 42
abbrev s_law_bent : Stmt := top 43
abbrev s_middle_of : Stmt := top 31
abbrev s_Form_forms : Stmt := inClass (top 26) 6
abbrev s_Either_forms : Stmt := inClass (top 28) 2
abbrev s_Both_forms : Stmt := inClass (top 27) 2
abbrev s_Both___init__ : Stmt := inClass (top 27) 0
abbrev s_Pattern___and__ : Stmt := inClass (top 25) 0
abbrev s_Either___init__ : Stmt := inClass (top 28) 0
abbrev s_Pattern___or__ : Stmt := inClass (top 25) 1
abbrev s_parts_of : Stmt := top 30
abbrev s_is_line : Stmt := top 4
abbrev s_is_allowed : Stmt := top 24
abbrev s_Form___init__ : Stmt := inClass (top 26) 3
abbrev s_pattern_of : Stmt := top 32
abbrev s_read_pattern : Stmt := top 33
abbrev s_law_refused : Stmt := top 45
abbrev s_law_all_signs : Stmt := top 37
abbrev s_law_text : Stmt := top 38
abbrev s_law_rich : Stmt := top 39
abbrev s_law_shape : Stmt := top 40
abbrev s_law_same_or_none : Stmt := top 46
abbrev s_law : Stmt := top 47
abbrev si_NoForm : Stmt := inClass (top 18) 0
abbrev si_NoText : Stmt := inClass (top 19) 0
def fn : List He.DefD := [⟨("Form", some "__str__"), "__str__", "Form.__str__", defArgs s_Form___str__, defBody s_Form___str__, defScope s_Form___str__, [], []⟩,
  ⟨("Both", some "__str__"), "__str__", "Both.__str__", defArgs s_Both___str__, defBody s_Both___str__, defScope s_Both___str__, [], []⟩,
  ⟨("Either", some "__str__"), "__str__", "Either.__str__", defArgs s_Either___str__, defBody s_Either___str__, defScope s_Either___str__, [], []⟩,
  ⟨("_law_odd", none), "_law_odd", "_law_odd", defArgs s_law_odd, defBody s_law_odd, defScope s_law_odd, [], []⟩,
  ⟨("Pattern", some "__eq__"), "__eq__", "Pattern.__eq__", defArgs s_Pattern___eq__, defBody s_Pattern___eq__, defScope s_Pattern___eq__, [], []⟩,
  ⟨("_law_pool", none), "_law_pool", "_law_pool", defArgs s_law_pool, defBody s_law_pool, defScope s_law_pool, [], []⟩,
  ⟨("_law_shown", none), "_law_shown", "_law_shown", defArgs s_law_shown, defBody s_law_shown, defScope s_law_shown, [], []⟩,
  ⟨("_law_take", none), "_law_take", "_law_take", defArgs s_law_take, defBody s_law_take, defScope s_law_take, [], []⟩,
  ⟨("_law_sign", none), "_law_sign", "_law_sign", defArgs s_law_sign, defBody s_law_sign, defScope s_law_sign, [], []⟩,
  ⟨("_law_bent", none), "_law_bent", "_law_bent", defArgs s_law_bent, defBody s_law_bent, defScope s_law_bent, [], []⟩,
  ⟨("middle_of", none), "middle_of", "middle_of", defArgs s_middle_of, defBody s_middle_of, defScope s_middle_of, [], []⟩,
  ⟨("Form", some "forms"), "forms", "Form.forms", defArgs s_Form_forms, defBody s_Form_forms, defScope s_Form_forms, [], []⟩,
  ⟨("Either", some "forms"), "forms", "Either.forms", defArgs s_Either_forms, defBody s_Either_forms, defScope s_Either_forms, [], []⟩,
  ⟨("Both", some "forms"), "forms", "Both.forms", defArgs s_Both_forms, defBody s_Both_forms, defScope s_Both_forms, [], []⟩,
  ⟨("Both", some "__init__"), "__init__", "Both.__init__", defArgs s_Both___init__, defBody s_Both___init__, defScope s_Both___init__, [], []⟩,
  ⟨("Pattern", some "__and__"), "__and__", "Pattern.__and__", defArgs s_Pattern___and__, defBody s_Pattern___and__, defScope s_Pattern___and__, [], []⟩,
  ⟨("Either", some "__init__"), "__init__", "Either.__init__", defArgs s_Either___init__, defBody s_Either___init__, defScope s_Either___init__, [], []⟩,
  ⟨("Pattern", some "__or__"), "__or__", "Pattern.__or__", defArgs s_Pattern___or__, defBody s_Pattern___or__, defScope s_Pattern___or__, [], []⟩,
  ⟨("parts_of", none), "parts_of", "parts_of", defArgs s_parts_of, defBody s_parts_of, defScope s_parts_of, [], []⟩,
  ⟨("is_line", none), "is_line", "is_line", defArgs s_is_line, defBody s_is_line, defScope s_is_line, [], []⟩,
  ⟨("is_allowed", none), "is_allowed", "is_allowed", defArgs s_is_allowed, defBody s_is_allowed, defScope s_is_allowed, [], []⟩,
  ⟨("Form", some "__init__"), "__init__", "Form.__init__", defArgs s_Form___init__, defBody s_Form___init__, defScope s_Form___init__, [], []⟩,
  ⟨("pattern_of", none), "pattern_of", "pattern_of", defArgs s_pattern_of, defBody s_pattern_of, defScope s_pattern_of, [], []⟩,
  ⟨("read_pattern", none), "read_pattern", "read_pattern", defArgs s_read_pattern, defBody s_read_pattern, defScope s_read_pattern, [], []⟩,
  ⟨("_law_refused", none), "_law_refused", "_law_refused", defArgs s_law_refused, defBody s_law_refused, defScope s_law_refused, [], []⟩,
  ⟨("_law_all_signs", none), "_law_all_signs", "_law_all_signs", defArgs s_law_all_signs, defBody s_law_all_signs, defScope s_law_all_signs, [], []⟩,
  ⟨("_law_text", none), "_law_text", "_law_text", defArgs s_law_text, defBody s_law_text, defScope s_law_text, [], []⟩,
  ⟨("_law_rich", none), "_law_rich", "_law_rich", defArgs s_law_rich, defBody s_law_rich, defScope s_law_rich, [], []⟩,
  ⟨("_law_shape", none), "_law_shape", "_law_shape", defArgs s_law_shape, defBody s_law_shape, defScope s_law_shape, [], []⟩,
  ⟨("_law_same_or_none", none), "_law_same_or_none", "_law_same_or_none", defArgs s_law_same_or_none, defBody s_law_same_or_none, defScope s_law_same_or_none, [], []⟩,
  ⟨("law", none), "law", "law", defArgs s_law, defBody s_law, defScope s_law, [], []⟩]
def fa : List He.Fa := [.glo "_law_odd", .glo "_law_pool", .glo "_law_shown", .glo "_law_take", .glo "_law_sign", .glo "_law_bent", .glo "middle_of", .glo "parts_of", .glo "is_line", .glo "is_allowed", .glo "pattern_of", .glo "read_pattern", .glo "_law_refused", .glo "_law_all_signs", .glo "_law_text", .glo "_law_rich", .glo "_law_shape", .glo "_law_same_or_none", .glo "law", .glo "Form", .cls "Form", .noat "Form" "pieces", .meth "Form" "__str__", .meth "Form" "forms", .mkr "Form", .glo "Both", .cls "Both", .noat "Both" "left", .noat "Both" "right", .meth "Both" "__str__", .meth "Both" "forms", .mkr "Both", .glo "Either", .cls "Either", .noat "Either" "left", .noat "Either" "right", .meth "Either" "__str__", .meth "Either" "forms", .mkr "Either", .glo "Pattern", .cls "Pattern", .meth "Pattern" "__eq__", .meth "Pattern" "__and__", .meth "Pattern" "__or__", .glo "GlueError", .glo "NoForm", .glo "NoText", .free "ValueError", .free "enumerate", .free "int", .free "isinstance", .free "len", .free "max", .free "min", .free "range", .free "str", .str "ANY_CELL" "<any>", .glo "FREE_CELLS", .int "MOST_FORMS" 3, .int "MOST_PARTS" 4, .int "MOST_SIGNS" 4, .str "SIGNS" " #-.0123456789:>ABCDEFGHIJKLMNOPQRSTUVWXYZabcdefghijklmnopqrstuvwxyz"]
abbrev FnU : Type := Option (Str × Str × Arguments × FuncBody × Scope × Addr × Addr)
def fwDrop (z : Str × Str × Arguments × FuncBody × Scope × Addr × List (Str × Addr) × Addr) : Str × Str × Arguments × FuncBody × Scope × Addr × Addr := (z.1, z.2.1, z.2.2.1, z.2.2.2.1, z.2.2.2.2.1, z.2.2.2.2.2.1, z.2.2.2.2.2.2.2)
theorem fw_mk {L : He.FnW} {n q : Str} {a : Arguments} {b : FuncBody} {s : Scope} {m m' : Addr} {c : List (Str × Addr)} (h : L.map fwDrop = some (n, q, a, b, s, m, m')) (k : decide (L.map (fun z => z.2.2.2.2.2.2.1) = some c) = true) : L = some (n, q, a, b, s, m, c, m') := by
  have k := of_decide_eq_true k
  cases L with
  | none => cases h
  | some z =>
    obtain ⟨z1, z2, z3, z4, z5, z6, z7, z8⟩ := z
    have k : z7 = c := Option.some.inj k
    have h : (z1, z2, z3, z4, z5, z6, z8) = (n, q, a, b, s, m, m') := Option.some.inj h
    simp only [Prod.mk.injEq] at h
    obtain ⟨h1, h2, h3, h4, h5, h6, h7⟩ := h
    rw [k, h1, h2, h3, h4, h5, h6, h7]
def fwL_NoForm (K : PySem.W.Frag) : He.FnW := He.fnW K ("NoForm", some "__init__")
def lhs_NoForm (K : PySem.W.Frag) : FnU := (fwL_NoForm K).map fwDrop
def rhs_NoForm : FnU := some (("__init__" : Str), ("NoForm.__init__" : Str), defArgs si_NoForm, FuncBody.stmts (defBody si_NoForm), defScope si_NoForm, mainGlobals, builtinsNs)
def clo_NoForm (K : PySem.W.Frag) : List (Str × Addr) := [(("__class__" : Str), ccOf K "NoForm")]
def fwL_NoText (K : PySem.W.Frag) : He.FnW := He.fnW K ("NoText", some "__init__")
def lhs_NoText (K : PySem.W.Frag) : FnU := (fwL_NoText K).map fwDrop
def rhs_NoText : FnU := some (("__init__" : Str), ("NoText.__init__" : Str), defArgs si_NoText, FuncBody.stmts (defBody si_NoText), defScope si_NoText, mainGlobals, builtinsNs)
def clo_NoText (K : PySem.W.Frag) : List (Str × Addr) := [(("__class__" : Str), ccOf K "NoText")]
def fw_NoForm (K : PySem.W.Frag) : Prop := He.fnW K ("NoForm", some "__init__") = some (("__init__" : Str), ("NoForm.__init__" : Str), defArgs si_NoForm, FuncBody.stmts (defBody si_NoForm), defScope si_NoForm, mainGlobals, [(("__class__" : Str), ccOf K "NoForm")], builtinsNs)
def fw_NoText (K : PySem.W.Frag) : Prop := He.fnW K ("NoText", some "__init__") = some (("__init__" : Str), ("NoText.__init__" : Str), defArgs si_NoText, FuncBody.stmts (defBody si_NoText), defScope si_NoText, mainGlobals, [(("__class__" : Str), ccOf K "NoText")], builtinsNs)
def tabs (P : Program) (K : PySem.W.Frag) : Bool := (patB K && (He.tupB K "FREE_CELLS" [.str "<digits>", .str "<word>", .str "<any>"] && (errB P K "NoForm" "NoForm.__init__" ["at"] && (errB P K "NoText" "NoText.__init__" ["text"] && (exmB K "NoForm" "NoForm" && (exmB K "NoText" "NoText" && (exnB K "NoText" "NoForm" && (isEB K (He.ga K "NoText") && (kitB K (He.ga K "NoText") (.ref (He.ga K "GlueError")) true && (kitB K (He.ga K "NoText") (.ref (He.ga K "NoForm")) false && (kitB K (He.ga K "NoText") (.type "ValueError") true && true)))))))))))
/-! the top, run in the kernel -/
abbrev RR : PySem.W.OpenRow := PySem.W.OpenLaw.row PySem.Challenge.rw_gluedlines_k07_whole_pattern_texts_spoil
def loose0 : List PySem.Str := [("SIGNS" : PySem.Str), ("DIGIT_SIGNS" : PySem.Str), ("LETTER_SIGNS" : PySem.Str), ("is_line" : PySem.Str), ("DIGITS_CELL" : PySem.Str), ("WORD_CELL" : PySem.Str), ("ANY_CELL" : PySem.Str), ("FREE_CELLS" : PySem.Str), ("cells_of" : PySem.Str), ("takes" : PySem.Str), ("closed" : PySem.Str), ("started" : PySem.Str), ("moved" : PySem.Str), ("is_done" : PySem.Str), ("GlueError" : PySem.Str), ("NoForm" : PySem.Str), ("NoText" : PySem.Str), ("MOST_FORMS" : PySem.Str), ("MOST_PARTS" : PySem.Str), ("MOST_SIGNS" : PySem.Str), ("is_allowed" : PySem.Str), ("Pattern" : PySem.Str), ("Form" : PySem.Str), ("Both" : PySem.Str), ("Either" : PySem.Str), ("parts_of" : PySem.Str), ("middle_of" : PySem.Str), ("pattern_of" : PySem.Str), ("read_pattern" : PySem.Str), ("_law_pool" : PySem.Str), ("_law_take" : PySem.Str), ("_law_all_signs" : PySem.Str), ("_law_text" : PySem.Str), ("_law_rich" : PySem.Str), ("_law_shape" : PySem.Str), ("_law_shown" : PySem.Str), ("_law_sign" : PySem.Str), ("_law_bent" : PySem.Str), ("_law_odd" : PySem.Str), ("_law_refused" : PySem.Str)]
def loose1 : List PySem.Str := [("_law_same_or_none" : PySem.Str)]
def loose : List PySem.Str := loose0 ++ loose1
def refsN (o : Obj) : List Addr := match o.data with
  | .seq its _ => its.toList.flatMap He.refV
  | .dict es _ => es.toList.flatMap fun e => He.refV e.val
  | .func fd => He.refV fd.code ++ He.refV fd.defaults ++ He.refV fd.kwdefaults ++ fd.closure.map (·.2)
  | .cls cd => [cd.ns]
  | .fields vs => (match o.cls with
    | .type "code" => []
    | _ => vs.toList.flatMap He.refV)
  | .cell (some v) => He.refV v
  | _ => []
def levG (g : Addr → Option Obj) : Nat → List Addr → List Addr
  | 0, as => as
  | n + 1, as => as ++ levG g n (as.flatMap fun a => match g a with
    | some o => refsN o
    | none => [])
def obK (K : PySem.W.Frag) : Bool × List FnU × He.AlD := (tabs RR.prog K && decide ((fwL_NoForm K).map (fun z => z.2.2.2.2.2.2.1) = some (clo_NoForm K)) && decide ((fwL_NoText K).map (fun z => z.2.2.2.2.2.2.1) = some (clo_NoText K)), [lhs_NoForm K, lhs_NoText K], He.obsD fa fn K)
def obG (g : Addr → Option Obj) : Bool × List FnU × He.AlD := obK (He.frG g (cStatics :: levG g 5 [mainGlobals]))
def hk : PySem.W.Hook where
  α := Bool × List FnU × He.AlD
  obs := fun s => obG s.heap.get?
  val := fun _ => (true, [rhs_NoForm, rhs_NoText], He.valD fn)
  says := fun _ h => ∃ K : PySem.W.Frag, K.In h ∧ obK K = (true, [rhs_NoForm, rhs_NoText], He.valD fn)
  of := fun _ _ e => ⟨_, He.frG_in, e⟩
  keeps := fun _ _ _ ⟨K, hK, c⟩ k => ⟨K, PySem.W.Frag.In.keeps hK k, c⟩
def ob (s : PySem.W.SharedT) : Bool × List FnU × He.AlD := obG (HandSHeadRun.getT s)
theorem ob_eq (s : PySem.W.SharedT) : ob s = hk.obs s.abs := by
  have e : HandSHeadRun.getT s = s.abs.heap.get? := funext (HandSHeadRun.getT_eq s)
  show obG (HandSHeadRun.getT s) = obG s.abs.heap.get?
  rw [e]
theorem run_join {α β γ δ : Type} {x : Option δ} {A : δ → α} {B : δ → β} {C : δ → γ} {a : α} {b : β} {c : γ} (h1 : x.map A = some a) (h2 : x.map B = some b) (h3 : x.map C = some c) : x.map (fun s => (A s, B s, C s)) = some (a, b, c) := by
  cases x with
  | none => cases h1
  | some s =>
    have e1 : A s = a := Option.some.inj h1
    have e2 : B s = b := Option.some.inj h2
    have e3 : C s = c := Option.some.inj h3
    subst e1 e2 e3
    rfl
theorem runA (w : World) (os : OsState) : (HandSHeadRun.endF (HandSHeadRun.stepQ (HandSHeadRun.denQ HandSHeadRun.tabQ) RR.prog w) 60000 RR.prog w os).map (fun s => HandSHeadRun.looksF RR.prog (PySem.W.boot_heap w.params) s.abs) = some true := by kernel_rfl
theorem runB (w : World) (os : OsState) : (HandSHeadRun.endF (HandSHeadRun.stepQ (HandSHeadRun.denQ HandSHeadRun.tabQ) RR.prog w) 60000 RR.prog w os).map (fun s => HandSHeadRun.seenQ (PySem.W.view RR.prog [47]) loose (PySem.importedModules RR.prog.main.body) (fun s => PySem.W.xlAt (PySem.W.view RR.prog [47]) [] s && PySem.W.recOk RR.toRowW.records s) s.abs) = some (PySem.W.openGood (PySem.W.view RR.prog [47]) loose) := by kernel_rfl
theorem runC (w : World) (os : OsState) : (HandSHeadRun.endF (HandSHeadRun.stepQ (HandSHeadRun.denQ HandSHeadRun.tabQ) RR.prog w) 60000 RR.prog w os).map ob = some (hk.val w) := by kernel_rfl
theorem run (w : World) : HandSHeadRun.RunEq RR (PySem.W.view RR.prog [47]) hk ob 60000 loose w := fun os => run_join (runA w os) (runB w os) (runC w os)


def qBoth : R (Pat × Pat) := ⟨fun K F v a => ∃ (p dx : Addr) (u0 u1 : V), v = .ref p ∧ F p = some (.ins (He.ga K "Both") dx [("left", u0), ("right", u1)]) ∧ qPat.r K F u0 a.1 ∧ qPat.r K F u1 a.2, fun e ⟨p, dx, u0, u1, h1, h2, k0, k1⟩ => ⟨p, dx, u0, u1, h1, e _ _ h2, qPat.mono e k0, qPat.mono e k1⟩⟩
def qEither : R (Pat × Pat) := ⟨fun K F v a => ∃ (p dx : Addr) (u0 u1 : V), v = .ref p ∧ F p = some (.ins (He.ga K "Either") dx [("left", u0), ("right", u1)]) ∧ qPat.r K F u0 a.1 ∧ qPat.r K F u1 a.2, fun e ⟨p, dx, u0, u1, h1, h2, k0, k1⟩ => ⟨p, dx, u0, u1, h1, e _ _ h2, qPat.mono e k0, qPat.mono e k1⟩⟩

def m_Form___str__ (a_self : (List Str)) : Option Str :=
  (gd (joinOk ("" : Str) a_self) <| some (Txt.join ("" : Str) a_self))
def m_law_odd  : Option (List Str) :=
  (gd (fits2 [("" : Str), ("<" : Str), (">a<" : Str), ("<any" : Str), ("any>>(" : Str), ("<any><any>" : Str), ("abcde" : Str), ("<any>a<any>" : Str), ("(a)" : Str), ("(a & b" : Str), ("a & b" : Str), ("a | b" : Str)] [("(a &b)" : Str), ("(a& b)" : Str), ("(a & )" : Str), ("( & b)" : Str), ("(a ^ b)" : Str), ("(a & b) " : Str), (" (a & b)" : Str), ("((a & b))" : Str), ("()" : Str)]) <| gd (fits2 ([("" : Str), ("<" : Str), (">a<" : Str), ("<any" : Str), ("any>>(" : Str), ("<any><any>" : Str), ("abcde" : Str), ("<any>a<any>" : Str), ("(a)" : Str), ("(a & b" : Str), ("a & b" : Str), ("a | b" : Str)] ++ [("(a &b)" : Str), ("(a& b)" : Str), ("(a & )" : Str), ("( & b)" : Str), ("(a ^ b)" : Str), ("(a & b) " : Str), (" (a & b)" : Str), ("((a & b))" : Str), ("()" : Str)]) [("(a & b & c)" : Str), ("(a | b) | c" : Str), ("((a & b) | (c & d))" : Str), ("(a & b)c" : Str), ("<Any>" : Str), ("<digits" : Str), ("a_b" : Str), ("a\n" : Str)]) <| gd (fits2 (([("" : Str), ("<" : Str), (">a<" : Str), ("<any" : Str), ("any>>(" : Str), ("<any><any>" : Str), ("abcde" : Str), ("<any>a<any>" : Str), ("(a)" : Str), ("(a & b" : Str), ("a & b" : Str), ("a | b" : Str)] ++ [("(a &b)" : Str), ("(a& b)" : Str), ("(a & )" : Str), ("( & b)" : Str), ("(a ^ b)" : Str), ("(a & b) " : Str), (" (a & b)" : Str), ("((a & b))" : Str), ("()" : Str)]) ++ [("(a & b & c)" : Str), ("(a | b) | c" : Str), ("((a & b) | (c & d))" : Str), ("(a & b)c" : Str), ("<Any>" : Str), ("<digits" : Str), ("a_b" : Str), ("a\n" : Str)]) [("<word><word><word><word><word>" : Str), ("a<digits>b<digits>c" : Str), ("<digits>abcd<word>efghi" : Str), ("(a && b)" : Str)]) <| gd (fits2 ((([("" : Str), ("<" : Str), (">a<" : Str), ("<any" : Str), ("any>>(" : Str), ("<any><any>" : Str), ("abcde" : Str), ("<any>a<any>" : Str), ("(a)" : Str), ("(a & b" : Str), ("a & b" : Str), ("a | b" : Str)] ++ [("(a &b)" : Str), ("(a& b)" : Str), ("(a & )" : Str), ("( & b)" : Str), ("(a ^ b)" : Str), ("(a & b) " : Str), (" (a & b)" : Str), ("((a & b))" : Str), ("()" : Str)]) ++ [("(a & b & c)" : Str), ("(a | b) | c" : Str), ("((a & b) | (c & d))" : Str), ("(a & b)c" : Str), ("<Any>" : Str), ("<digits" : Str), ("a_b" : Str), ("a\n" : Str)]) ++ [("<word><word><word><word><word>" : Str), ("a<digits>b<digits>c" : Str), ("<digits>abcd<word>efghi" : Str), ("(a && b)" : Str)]) [("(ab &cd)" : Str), ("(ab & cd" : Str)]) <| gd (repOk ("(" : Str) 40) <| gd (catOk (repS ("(" : Str) 40) ("a" : Str)) <| gd (repOk ("(a & " : Str) 20) <| gd (catOk (repS ("(a & " : Str) 20) ("a" : Str)) <| gd (repOk (")" : Str) 20) <| gd (catOk ((repS ("(a & " : Str) 20) ++ ("a" : Str)) (repS (")" : Str) 20)) <| gd (fits2 (((([("" : Str), ("<" : Str), (">a<" : Str), ("<any" : Str), ("any>>(" : Str), ("<any><any>" : Str), ("abcde" : Str), ("<any>a<any>" : Str), ("(a)" : Str), ("(a & b" : Str), ("a & b" : Str), ("a | b" : Str)] ++ [("(a &b)" : Str), ("(a& b)" : Str), ("(a & )" : Str), ("( & b)" : Str), ("(a ^ b)" : Str), ("(a & b) " : Str), (" (a & b)" : Str), ("((a & b))" : Str), ("()" : Str)]) ++ [("(a & b & c)" : Str), ("(a | b) | c" : Str), ("((a & b) | (c & d))" : Str), ("(a & b)c" : Str), ("<Any>" : Str), ("<digits" : Str), ("a_b" : Str), ("a\n" : Str)]) ++ [("<word><word><word><word><word>" : Str), ("a<digits>b<digits>c" : Str), ("<digits>abcd<word>efghi" : Str), ("(a && b)" : Str)]) ++ [("(ab &cd)" : Str), ("(ab & cd" : Str)]) [((repS ("(" : Str) 40) ++ ("a" : Str)), (((repS ("(a & " : Str) 20) ++ ("a" : Str)) ++ (repS (")" : Str) 20)), (")(" : Str), ("(a & b))" : Str), ("<any>(a & b)" : Str), ("(a | abcde)" : Str)]) <| some ((((([("" : Str), ("<" : Str), (">a<" : Str), ("<any" : Str), ("any>>(" : Str), ("<any><any>" : Str), ("abcde" : Str), ("<any>a<any>" : Str), ("(a)" : Str), ("(a & b" : Str), ("a & b" : Str), ("a | b" : Str)] ++ [("(a &b)" : Str), ("(a& b)" : Str), ("(a & )" : Str), ("( & b)" : Str), ("(a ^ b)" : Str), ("(a & b) " : Str), (" (a & b)" : Str), ("((a & b))" : Str), ("()" : Str)]) ++ [("(a & b & c)" : Str), ("(a | b) | c" : Str), ("((a & b) | (c & d))" : Str), ("(a & b)c" : Str), ("<Any>" : Str), ("<digits" : Str), ("a_b" : Str), ("a\n" : Str)]) ++ [("<word><word><word><word><word>" : Str), ("a<digits>b<digits>c" : Str), ("<digits>abcd<word>efghi" : Str), ("(a && b)" : Str)]) ++ [("(ab &cd)" : Str), ("(ab & cd" : Str)]) ++ [((repS ("(" : Str) 40) ++ ("a" : Str)), (((repS ("(a & " : Str) 20) ++ ("a" : Str)) ++ (repS (")" : Str) 20)), (")(" : Str), ("(a & b))" : Str), ("<any>(a & b)" : Str), ("(a | abcde)" : Str)]))
def m_Pattern___eq__ (a_self : Pat) (a_other : Pat) : Option Bool :=
  ((m_pat___str__ (a_self)).bind fun t1 => (m_pat___str__ (a_other)).bind fun t9 => some (decide (t1 = t9)))
def m_law_pool (a__law_script : (List Int)) (a__law_k : Int) : Option (Int × Int) :=
  (((gd (shp (dL dI) a__law_script) <| gd (shp (dL dI) ([] : List Int)) <| if (!decide (a__law_script = ([] : List Int))) = true then (gd (modOk ((a__law_script).length : Int)) <| (atI a__law_script (a__law_k % ((a__law_script).length : Int))).bind fun t14 => some (t14)) else (some (0)))).bind fun (t1 : Int) => gd (modOk 2147483629) <| gd (mulOk 104729 a__law_k) <| gd (mulOk (((t1 % 2147483629) + (104729 * a__law_k)) + 11) 48271) <| gd (modOk 2147483647) <| gd (powOk 10 18) <| gd (mulOk t1 (b2I ((decide ((10 ^ (18 : Int).toNat) ≤ t1))))) <| some ((t1 * (b2I ((decide ((10 ^ (18 : Int).toNat) ≤ t1))))), (((((t1 % 2147483629) + (104729 * a__law_k)) + 11) * 48271) % 2147483647)))
def m_law_shown : Nat → Shp → (List (List Str)) → Option Str
  | 0, _, _ => none
  | n + 1, a__law_shape_here, a__law_drawn => (if (decide ((Shp.len a__law_shape_here) = 1)) = true then ((Shp.num a__law_shape_here).bind fun t2 => (atI a__law_drawn t2).bind fun t4 => gd (joinOk ("" : Str) t4) <| some (Txt.join ("" : Str) t4)) else ((Shp.lft a__law_shape_here).bind fun t9 => (m_law_shown n (t9) (a__law_drawn)).bind fun t13 => gd (catOk ("(" : Str) t13) <| gd (catOk (("(" : Str) ++ t13) (" " : Str)) <| (Shp.op a__law_shape_here).bind fun t23 => gd (catOk ((("(" : Str) ++ t13) ++ (" " : Str)) t23) <| gd (catOk (((("(" : Str) ++ t13) ++ (" " : Str)) ++ t23) (" " : Str)) <| (Shp.rgt a__law_shape_here).bind fun t27 => (m_law_shown n (t27) (a__law_drawn)).bind fun t31 => gd (catOk ((((("(" : Str) ++ t13) ++ (" " : Str)) ++ t23) ++ (" " : Str)) t31) <| gd (catOk (((((("(" : Str) ++ t13) ++ (" " : Str)) ++ t23) ++ (" " : Str)) ++ t31) (")" : Str)) <| some ((((((("(" : Str) ++ t13) ++ (" " : Str)) ++ t23) ++ (" " : Str)) ++ t31) ++ (")" : Str))))
def m_law_take (a__law_pool_here : (Int × Int)) (a__law_many : Int) : Option (Int × (Int × Int)) :=
  (if (decide (0 < (a__law_pool_here).1)) = true then (gd (modOk a__law_many) <| gd (divOk a__law_many) <| some (((a__law_pool_here).1 % a__law_many), (((a__law_pool_here).1 / a__law_many), (a__law_pool_here).2))) else (gd (mulOk (a__law_pool_here).2 48271) <| gd (modOk 2147483647) <| gd (mulOk (((a__law_pool_here).1, ((((a__law_pool_here).2 * 48271) + 11) % 2147483647))).2 (((a__law_pool_here).1, ((((a__law_pool_here).2 * 48271) + 11) % 2147483647))).2) <| gd (modOk 2147483629) <| gd (divOk 64) <| gd (modOk a__law_many) <| some ((((((((a__law_pool_here).1, ((((a__law_pool_here).2 * 48271) + 11) % 2147483647))).2 * (((a__law_pool_here).1, ((((a__law_pool_here).2 * 48271) + 11) % 2147483647))).2) % 2147483629) / 64) % a__law_many), ((a__law_pool_here).1, ((((a__law_pool_here).2 * 48271) + 11) % 2147483647)))))
def m_law_sign (a__law_pool_here : (Int × Int)) : Option (Str × (Int × Int)) :=
  (gd (catOk (" !\"#$&'()*+,-./0123456789:;<=>?@ABCDEFGHIJKLMNOPQRSTUVWXYZ[\\]^_`" : Str) ("abcdefghijklmnopqrstuvwxyz{|}~\n\t" : Str)) <| (m_law_take (a__law_pool_here) (2)).bind fun t2 => if (decide (t2.1 = 0)) = true then ((m_law_take (t2.2) (9)).bind fun t13 => (ixS ("()&| <>a1" : Str) t13.1).bind fun t23 => some (t23, t13.2)) else ((m_law_take (t2.2) (96)).bind fun t25 => (ixS ((" !\"#$&'()*+,-./0123456789:;<=>?@ABCDEFGHIJKLMNOPQRSTUVWXYZ[\\]^_`" : Str) ++ ("abcdefghijklmnopqrstuvwxyz{|}~\n\t" : Str)) t25.1).bind fun t35 => some (t35, t25.2)))
def m_law_bent (a__law_pool_here : (Int × Int)) (a__law_text_here : Str) : Option (Str × (Int × Int)) :=
  (gd (fitsS a__law_text_here) <| (m_law_take (a__law_pool_here) ((((a__law_text_here).length : Int) + 1))).bind fun t2 => (m_law_take (t2.2) (3)).bind fun t12 => if (decide (t12.1 = 0)) = true then (gd (fitsS a__law_text_here) <| (m_law_sign (t12.2)).bind fun t24 => gd (catOk (cutS a__law_text_here none (some t2.1)) t24.1) <| gd (fitsS a__law_text_here) <| gd (catOk ((cutS a__law_text_here none (some t2.1)) ++ t24.1) (cutS a__law_text_here (some t2.1) none)) <| some ((((cutS a__law_text_here none (some t2.1)) ++ t24.1) ++ (cutS a__law_text_here (some t2.1) none)), t24.2)) else (if (decide (t12.1 = 1)) = true then (gd (fitsS a__law_text_here) <| gd (fitsS a__law_text_here) <| gd (catOk (cutS a__law_text_here none (some t2.1)) (cutS a__law_text_here (some (t2.1 + 1)) none)) <| some (((cutS a__law_text_here none (some t2.1)) ++ (cutS a__law_text_here (some (t2.1 + 1)) none)), t12.2)) else (gd (fitsS a__law_text_here) <| (m_law_sign (t12.2)).bind fun t42 => gd (catOk (cutS a__law_text_here none (some t2.1)) t42.1) <| gd (fitsS a__law_text_here) <| gd (catOk ((cutS a__law_text_here none (some t2.1)) ++ t42.1) (cutS a__law_text_here (some (t2.1 + 1)) none)) <| some ((((cutS a__law_text_here none (some t2.1)) ++ t42.1) ++ (cutS a__law_text_here (some (t2.1 + 1)) none)), t42.2))))
def m_middle_of_b1  (x15 : (Int × Str)) (s17 : ((List Int) × Int)) : Option ((List Int) × Int) :=
  (if (decide (x15.2 = ("(" : Str))) = true then (some (s17.1, (s17.2 + 1))) else (if (decide (x15.2 = (")" : Str))) = true then (some (s17.1, (s17.2 - 1))) else (if ((inS x15.2 ("&|" : Str)) && (decide (s17.2 = 0))) = true then (gd (fits s17.1) <| some ((s17.1 ++ [x15.1]), s17.2)) else (some (s17.1, s17.2)))))
def m_middle_of (a_text : Str) : Option (Option Int) :=
  ((loopS m_middle_of_b1 (enumI (sgns a_text)) (([] : List Int), 0)).bind fun t9 => (if (decide (((t9.1).length : Int) = 1)) = true then ((atI t9.1 0).bind fun t69 => some ((some t69))) else (some (none))).bind fun t62 => some t62)
def m_Form_forms (a_self : (List Str)) : Option (List (List Str)) :=
  (some [a_self])
def m_Both___init__ (a_one : Pat) (a_other : Pat) : Option (Pat × Pat) :=
  ((m_pat_forms (a_one)).bind fun t1 => (m_pat_forms (a_other)).bind fun t9 => if (decide ((3) < (((t1).length : Int) + ((t9).length : Int)))) = true then (none) else (some (a_one, a_other)))
def m_Both___init___vx (a_one : Pat) (a_other : Pat) : Option (Except (Option Int) (Pat × Pat)) :=
  ((m_pat_forms (a_one)).bind fun t1 => (m_pat_forms (a_other)).bind fun t9 => if (decide ((3) < (((t1).length : Int) + ((t9).length : Int)))) = true then (some (.error ((some (3))))) else (some (.ok (a_one, a_other))))
def m_Pattern___and__ (a_self : Pat) (a_other : Pat) : Option Pat :=
  ((m_Both___init__ (a_self) (a_other)).bind fun t1 => some (Pat.both (t1).1 (t1).2))
def m_Pattern___and___vx (a_self : Pat) (a_other : Pat) : Option (Except (Option Int) Pat) :=
  ((m_Both___init___vx (a_self) (a_other)).bind fun t1 => exB t1 fun t3 => some (.ok (Pat.both (t3).1 (t3).2)))
def m_Either___init__ (a_one : Pat) (a_other : Pat) : Option (Pat × Pat) :=
  ((m_pat_forms (a_one)).bind fun t1 => (m_pat_forms (a_other)).bind fun t9 => if (decide ((3) < (((t1).length : Int) + ((t9).length : Int)))) = true then (none) else (some (a_one, a_other)))
def m_Either___init___vx (a_one : Pat) (a_other : Pat) : Option (Except (Option Int) (Pat × Pat)) :=
  ((m_pat_forms (a_one)).bind fun t1 => (m_pat_forms (a_other)).bind fun t9 => if (decide ((3) < (((t1).length : Int) + ((t9).length : Int)))) = true then (some (.error ((some (3))))) else (some (.ok (a_one, a_other))))
def m_Pattern___or__ (a_self : Pat) (a_other : Pat) : Option Pat :=
  ((m_Either___init__ (a_self) (a_other)).bind fun t1 => some (Pat.either (t1).1 (t1).2))
def m_Pattern___or___vx (a_self : Pat) (a_other : Pat) : Option (Except (Option Int) Pat) :=
  ((m_Either___init___vx (a_self) (a_other)).bind fun t1 => exB t1 fun t3 => some (.ok (Pat.either (t3).1 (t3).2)))
def m_parts_of_b1 (a_text : Str)  (s14 : ((List Str) × Int)) : Option (Bool × ((List Str) × Int)) :=
  (gd (fitsS a_text) <| some ((decide (s14.2 < ((a_text).length : Int))), (s14.1, s14.2)))
def m_parts_of_b2 (a_text : Str) (s33 : ((List Str) × Int)) (x58 : Str) (s60 : Str) : Option Str :=
  (if (Txt.startswith3 a_text x58 s33.2) = true then (some (x58)) else (some (s60)))
def m_parts_of_b3 (a_text : Str) (t53 : Str)  (s84 : Int) : Option (Bool × Int) :=
  ((if (decide (t53 = ("" : Str))) = true then (gd (fitsS a_text) <| (if (decide (s84 < ((a_text).length : Int))) = true then ((ixS a_text s84).bind fun t128 => some ((inS t128 (" #-.0123456789:>ABCDEFGHIJKLMNOPQRSTUVWXYZabcdefghijklmnopqrstuvwxyz" : Str)))) else some (false)).bind fun t122 => some (t122)) else some (false)).bind fun t113 => some (t113, (s84)))
def m_parts_of_b4   (s143 : Int) : Option Int :=
  (some ((s143 + 1)))
def m_parts_of_b5 (a_text : Str)  (s33 : ((List Str) × Int)) : Option (Ctl ((List Str) × Int) (Option (List Str))) :=
  ((loopS (m_parts_of_b2 a_text s33) (["<digits>", "<word>", "<any>"] : List Str) (("" : Str))).bind fun t53 => (whileS (m_parts_of_b3 a_text t53) m_parts_of_b4 fuel (s33.2)).bind fun t80 => if ((decide (t53 = ("" : Str))) && (decide (t80 = s33.2))) = true then (some (.rt none)) else (((if (decide (t53 = ("" : Str))) = true then (gd (fitsS a_text) <| some ((cutS a_text (some s33.2) (some t80)))) else (some (t53)))).bind fun (t164 : Str) => gd (fits s33.1) <| gd (fitsS t164) <| some (.nx ((s33.1 ++ [t164]), (s33.2 + ((t164).length : Int))))))
def m_parts_of (a_text : Str) : Option (Option (List Str)) :=
  ((whileC (m_parts_of_b1 a_text) (m_parts_of_b5 a_text) fuel (([] : List Str), 0)).bind fun t9 => aft t9 fun s184 => some (some s184.1))
def m_is_line_b1  (x28 : Str) (s30 : Unit) : Option (Ctl Unit Bool) :=
  (if (!inS x28 (" #-.0123456789:>ABCDEFGHIJKLMNOPQRSTUVWXYZabcdefghijklmnopqrstuvwxyz" : Str)) = true then (some (.rt false)) else (some (.nx ())))
def m_is_line (a_thing : Th) : Option Bool :=
  ((if (!(thIs "str" a_thing)) = true then some (true) else ((thS a_thing).bind fun t10 => some ((decide (t10 = ("" : Str)))))).bind fun t4 => if t4 = true then (some false) else ((thS a_thing).bind fun t20 => (loopC m_is_line_b1 (sgns t20) ()).bind fun t23 => aft t23 fun s46 => some true))
def m_is_allowed (a_parts : (List Str)) (a_at : Int) : Option Bool :=
  ((atI a_parts a_at).bind fun t1 => if ((decide ((4) ≤ a_at)) || false) = true then (some false) else (if (decide (t1 = ("<any>" : Str))) = true then (some (!decide (("<any>" : Str) ∈ (cut a_parts none (some a_at))))) else (if (decide (t1 ∈ (["<digits>", "<word>", "<any>"] : List Str))) = true then (some true) else ((if (decide (0 < a_at)) = true then ((atI a_parts (a_at - 1)).bind fun t26 => some ((!decide (t26 ∈ (["<digits>", "<word>", "<any>"] : List Str))))) else some (false)).bind fun t20 => if t20 = true then (some false) else ((m_is_line ((Th.d (PyData.str (t1))))).bind fun t39 => (if t39 = true then (gd (fitsS t1) <| some ((decide (((t1).length : Int) ≤ (4))))) else some (false)).bind fun t48 => some t48)))))
def m_Form___init___b1 (a_parts : (List Str)) (x8 : Int) (s10 : Unit) : Option Unit :=
  ((m_is_allowed (a_parts) (x8)).bind fun t21 => if (!t21) = true then (none) else (some ()))
def m_Form___init__ (a_parts : (List Str)) : Option (List Str) :=
  (if (decide (((a_parts).length : Int) = 0)) = true then (none) else (gd (rgOk 0 ((a_parts).length : Int)) <| (loopS (m_Form___init___b1 a_parts) (rng 0 ((a_parts).length : Int)) ()).bind fun t3 => some (a_parts)))
def m_Form___init___vx_b1 (a_parts : (List Str)) (x8 : Int) (s10 : Unit) : Option (Ctl Unit (Except (Option Int) (List Str))) :=
  ((m_is_allowed (a_parts) (x8)).bind fun t21 => if (!t21) = true then (some (.rt (.error ((some x8))))) else (some (.nx ())))
def m_Form___init___vx (a_parts : (List Str)) : Option (Except (Option Int) (List Str)) :=
  (if (decide (((a_parts).length : Int) = 0)) = true then (some (.error (none))) else (gd (rgOk 0 ((a_parts).length : Int)) <| (loopC (m_Form___init___vx_b1 a_parts) (rng 0 ((a_parts).length : Int)) ()).bind fun t3 => aft t3 fun s34 => some (.ok (a_parts))))
def m_pattern_of : Nat → Str → Str → Option Pat
  | 0, _, _ => none
  | n + 1, a_text, a_whole => (if (!(Txt.startswith a_text ("(" : Str))) = true then ((m_parts_of (a_text)).bind fun t2 => if ((t2).isNone) = true then (none) else ((t2).bind fun t11 => gd (Nat.ble (t11).length 900) <| (m_Form___init__ t11).bind fun t18 => some (Pat.form t18))) else (gd (fitsS a_text) <| (m_middle_of ((cutS a_text (some 1) (some (-1))))).bind fun t28 => if ((!(Txt.endswith a_text (")" : Str))) || ((t28).isNone)) = true then (none) else ((t28).bind fun t37 => gd (fitsS (cutS a_text (some 1) (some (-1)))) <| gd (fitsS (cutS (cutS a_text (some 1) (some (-1))) none (some t37))) <| (if (!decide ((cutS (cutS (cutS a_text (some 1) (some (-1))) none (some t37)) (some (-1)) none) = (" " : Str))) = true then some (true) else (gd (fitsS (cutS a_text (some 1) (some (-1)))) <| some ((!decide ((cutS (cutS a_text (some 1) (some (-1))) (some (t37 + 1)) (some (t37 + 2))) = (" " : Str)))))).bind fun t43 => if t43 = true then (none) else (gd (fitsS (cutS a_text (some 1) (some (-1)))) <| (m_pattern_of n ((cutS (cutS a_text (some 1) (some (-1))) none (some (t37 - 1)))) (a_whole)).bind fun t58 => gd (fitsS (cutS a_text (some 1) (some (-1)))) <| (m_pattern_of n ((cutS (cutS a_text (some 1) (some (-1))) (some (t37 + 2)) none)) (a_whole)).bind fun t67 => (ixS (cutS a_text (some 1) (some (-1))) t37).bind fun t75 => (if (decide (t75 = ("&" : Str))) = true then ((m_Pattern___and__ (t58) (t67)).bind fun t84 => some (t84)) else ((m_Pattern___or__ (t58) (t67)).bind fun t97 => some (t97))).bind fun t77 => some t77))))
def m_pattern_of_vx : Nat → Str → Str → Option (Except (Str ⊕ (Option Int)) Pat)
  | 0, _, _ => none
  | n + 1, a_text, a_whole => (if (!(Txt.startswith a_text ("(" : Str))) = true then ((m_parts_of (a_text)).bind fun t2 => if ((t2).isNone) = true then (some (.error (Sum.inl (a_whole)))) else ((t2).bind fun t11 => gd (Nat.ble (t11).length 900) <| (m_Form___init___vx t11).bind fun t18 => exB (exM Sum.inr t18) fun t20 => some (.ok (Pat.form t20)))) else (gd (fitsS a_text) <| (m_middle_of ((cutS a_text (some 1) (some (-1))))).bind fun t38 => if ((!(Txt.endswith a_text (")" : Str))) || ((t38).isNone)) = true then (some (.error (Sum.inl (a_whole)))) else ((t38).bind fun t47 => gd (fitsS (cutS a_text (some 1) (some (-1)))) <| gd (fitsS (cutS (cutS a_text (some 1) (some (-1))) none (some t47))) <| (if (!decide ((cutS (cutS (cutS a_text (some 1) (some (-1))) none (some t47)) (some (-1)) none) = (" " : Str))) = true then some (true) else (gd (fitsS (cutS a_text (some 1) (some (-1)))) <| some ((!decide ((cutS (cutS a_text (some 1) (some (-1))) (some (t47 + 1)) (some (t47 + 2))) = (" " : Str)))))).bind fun t53 => if t53 = true then (some (.error (Sum.inl (a_whole)))) else (gd (fitsS (cutS a_text (some 1) (some (-1)))) <| (m_pattern_of_vx n ((cutS (cutS a_text (some 1) (some (-1))) none (some (t47 - 1)))) (a_whole)).bind fun t68 => exB t68 fun t70 => gd (fitsS (cutS a_text (some 1) (some (-1)))) <| (m_pattern_of_vx n ((cutS (cutS a_text (some 1) (some (-1))) (some (t47 + 2)) none)) (a_whole)).bind fun t87 => exB t87 fun t89 => (ixS (cutS a_text (some 1) (some (-1))) t47).bind fun t105 => if (decide (t105 = ("&" : Str))) = true then ((m_Pattern___and___vx (t70) (t89)).bind fun t108 => exB (exM Sum.inr t108) fun t110 => some (.ok t110)) else ((m_Pattern___or___vx (t70) (t89)).bind fun t126 => exB (exM Sum.inr t126) fun t128 => some (.ok t128))))))
def m_read_pattern (a_text : Str) : Option Pat :=
  (if (decide ((3) ≤ (Txt.count a_text ("(" : Str)))) = true then (none) else ((m_pattern_of 3 (a_text) (a_text)).bind fun t2 => some t2))
def m_read_pattern_vx (a_text : Str) : Option (Except Str Pat) :=
  (if (decide ((3) ≤ (Txt.count a_text ("(" : Str)))) = true then (some (.error (a_text))) else ((m_pattern_of_vx 3 (a_text) (a_text)).bind fun t2 => exT t2 (fun (x11 : (Str ⊕ (Option Int))) => Sum.elim (fun (x19 : Str) => some (.error x19)) (fun (x19 : (Option Int)) => (some (.error (a_text)))) x11) fun t4 => some (.ok t4)))
def m_law_refused (a__law_text_here : Str) : Option Bool :=
  ((m_read_pattern_vx (a__law_text_here)).bind fun t1 => exT t1 (fun (x10 : Str) => (some ((decide (x10 = a__law_text_here)) && true))) fun t3 => some false)
def m_law_all_signs  : Option Str :=
  (some (" #-.0123456789:>ABCDEFGHIJKLMNOPQRSTUVWXYZabcdefghijklmnopqrstuvwxyz" : Str))
def m_law_text_b1 (t1 : (Int × (Int × Int))) (x28 : Int) (s30 : ((Int × Int) × Str)) : Option ((Int × Int) × Str) :=
  (if (decide (t1.1 = 0)) = true then ((m_law_all_signs).bind fun t43 => (m_law_take (s30.1) (68)).bind fun t51 => (ixS t43 t51.1).bind fun t61 => gd (catOk s30.2 t61) <| some (t51.2, (s30.2 ++ t61))) else ((m_law_take (s30.1) (4)).bind fun t64 => (ixS ("a1-b" : Str) t64.1).bind fun t74 => gd (catOk s30.2 t74) <| some (t64.2, (s30.2 ++ t74))))
def m_law_text (a__law_pool_here : (Int × Int)) : Option (Str × (Int × Int)) :=
  ((m_law_take (a__law_pool_here) (3)).bind fun t1 => (m_law_take (t1.2) (4)).bind fun t11 => gd (rgOk 0 (1 + t11.1)) <| (loopS (m_law_text_b1 t1) (rng 0 (1 + t11.1)) (t11.2, ("" : Str))).bind fun t22 => some (t22.2, t22.1))
def m_law_rich_b1  (x28 : Int) (s30 : ((Int × Int) × (List Str))) : Option ((Int × Int) × (List Str)) :=
  ((m_law_take (s30.1) (6)).bind fun t47 => gd (shp (dL dS) s30.2) <| gd (shp (dL dS) ([] : List Str)) <| (if (!decide (s30.2 = ([] : List Str))) = true then ((atI s30.2 (-1)).bind fun t81 => some ((!decide (t81 ∈ [("<any>" : Str), ("<digits>" : Str), ("<word>" : Str)])))) else some (false)).bind fun t75 => if ((decide (t47.1 = 0)) && (!decide (("<any>" : Str) ∈ s30.2))) = true then (gd (fits s30.2) <| some (t47.2, (s30.2 ++ [("<any>" : Str)]))) else (if (decide (t47.1 = 1)) = true then (gd (fits s30.2) <| some (t47.2, (s30.2 ++ [("<digits>" : Str)]))) else (if ((decide (t47.1 = 2)) || t75) = true then (gd (fits s30.2) <| some (t47.2, (s30.2 ++ [("<word>" : Str)]))) else ((m_law_text (t47.2)).bind fun t118 => gd (fits s30.2) <| some (t118.2, (s30.2 ++ [t118.1]))))))
def m_law_rich (a__law_pool_here : (Int × Int)) : Option ((List Str) × (Int × Int)) :=
  ((m_law_take (a__law_pool_here) (4)).bind fun t10 => gd (rgOk 0 (1 + t10.1)) <| (loopS m_law_rich_b1 (rng 0 (1 + t10.1)) (t10.2, ([] : List Str))).bind fun t21 => some (t21.2, t21.1))
def m_law_shape_b1  (x7 : Int) (s9 : Unit) : Option (Option Shp × Unit) :=
  (some (some (Shp.lf x7), ()))
def m_law_shape_b2   (s56 : ((Int × Int) × (List Shp))) : Option (Bool × ((Int × Int) × (List Shp))) :=
  (some ((decide (1 < ((s56.2).length : Int))), (s56.1, s56.2)))
def m_law_shape_b3   (s73 : ((Int × Int) × (List Shp))) : Option ((Int × Int) × (List Shp)) :=
  ((m_law_take (s73.1) ((((s73.2).length : Int) - 1))).bind fun t87 => (m_law_take (t87.2) (2)).bind fun t109 => (atI [("&" : Str), ("|" : Str)] t109.1).bind fun t119 => (atI s73.2 t87.1).bind fun t123 => (atI s73.2 (t87.1 + 1)).bind fun t127 => gd (fits2 (cut s73.2 none (some t87.1)) [(Shp.nd ((t119, t123, t127)).1 ((t119, t123, t127)).2.1 ((t119, t123, t127)).2.2)]) <| gd (fits2 ((cut s73.2 none (some t87.1)) ++ [(Shp.nd ((t119, t123, t127)).1 ((t119, t123, t127)).2.1 ((t119, t123, t127)).2.2)]) (cut s73.2 (some (t87.1 + 2)) none)) <| some (t109.2, (((cut s73.2 none (some t87.1)) ++ [(Shp.nd ((t119, t123, t127)).1 ((t119, t123, t127)).2.1 ((t119, t123, t127)).2.2)]) ++ (cut s73.2 (some (t87.1 + 2)) none))))
def m_law_shape (a__law_pool_here : (Int × Int)) (a__law_many : Int) : Option (Shp × (Int × Int)) :=
  (gd (rgOk 0 a__law_many) <| gd (fitsE (rng 0 a__law_many)) <| (comp m_law_shape_b1 (rng 0 a__law_many) ()).bind fun t3 => (whileS m_law_shape_b2 m_law_shape_b3 fuel (a__law_pool_here, t3.1)).bind fun t51 => (atI t51.2 0).bind fun t175 => some (t175, t51.1))
def m_law_same_or_none (a__law_text_here : Str) : Option Bool :=
  ((m_read_pattern_vx (a__law_text_here)).bind fun t1 => exT t1 (fun (x10 : Str) => (some ((decide (x10 = a__law_text_here)) && true))) fun t3 => (m_pat___str__ (t3)).bind fun t24 => some (decide (t24 = a__law_text_here)))
def m_law_b1  (x18 : Str) (s20 : Unit) : Option (Ctl Unit Bool) :=
  ((m_law_refused (x18)).bind fun t36 => if (!t36) = true then (some (.rt false)) else (some (.nx ())))
def m_law_b2  (x111 : Int) (s113 : (Int × Int)) : Option (Option (List Str) × (Int × Int)) :=
  ((m_law_rich (s113)).bind fun t131 => some (some t131.1, (t131.2)))
def m_law_b3 (a__law_script : (List Int)) (x66 : Int) (s68 : Unit) : Option (Ctl Unit Bool) :=
  ((m_law_pool (a__law_script) (x66)).bind fun t84 => (m_law_take (t84) (3)).bind fun t95 => gd (rgOk 0 (1 + t95.1)) <| gd (fitsE (rng 0 (1 + t95.1))) <| (comp m_law_b2 (rng 0 (1 + t95.1)) (t95.2)).bind fun t107 => (m_law_shape (t107.2) (((t107.1).length : Int))).bind fun t160 => (m_law_shown 3 (t160.1) (t107.1)).bind fun t170 => (m_law_bent (t160.2) (t170)).bind fun t178 => (((m_law_take (t178.2) (2)).bind fun t192 => if (decide (t192.1 = 0)) = true then ((m_law_bent (t192.2) (t178.1)).bind fun t203 => some (t203.2, t203.1)) else (some (t192.2, t178.1)))).bind fun (t188 : ((Int × Int) × Str)) => (m_law_same_or_none (t188.2)).bind fun t221 => (if (!t221) = true then some (true) else ((m_read_pattern (t170)).bind fun t251 => (m_pat___str__ (t251)).bind fun t259 => some ((!decide (t259 = t170))))).bind fun t245 => if t245 = true then (some (.rt false)) else (some (.nx ())))
def m_law (a__law_script : (List Int)) : Option Bool :=
  ((m_law_odd).bind fun t1 => (loopC m_law_b1 t1 ()).bind fun t13 => aft t13 fun s49 => gd (rgOk 0 (maxI 1 (minI 40 ((a__law_script).length : Int)))) <| (loopC (m_law_b3 a__law_script) (rng 0 (maxI 1 (minI 40 ((a__law_script).length : Int)))) ()).bind fun t61 => aft t61 fun s278 => some true)
theorem is_NoForm : PySem.OwnE.IS "NoForm.__init__" (defArgs si_NoForm) (defBody si_NoForm) (defScope si_NoForm) ["at"] where
  bd := ⟨_, _, _, _, _, _, _, _, _, rfl, .cons (.nil), fun _ _ _ _ => ⟨⟨_, rfl⟩, rfl, rfl⟩⟩
  bind := fun _ _ _ _ _ _ _ us hl => match us, hl with | [_, _], _ => rfl
  hd := ⟨_, rfl, rfl⟩
  nd := by decide +kernel
  loc := by decide +kernel
  cell := by decide +kernel
  co := rfl
  gen := rfl
  k := rfl
  hks := rfl
  hkc := rfl
  few := by decide
  some_ := by decide
theorem is_NoText : PySem.OwnE.IS "NoText.__init__" (defArgs si_NoText) (defBody si_NoText) (defScope si_NoText) ["text"] where
  bd := ⟨_, _, _, _, _, _, _, _, _, rfl, .cons (.nil), fun _ _ _ _ => ⟨⟨_, rfl⟩, rfl, rfl⟩⟩
  bind := fun _ _ _ _ _ _ _ us hl => match us, hl with | [_, _], _ => rfl
  hd := ⟨_, rfl, rfl⟩
  nd := by decide +kernel
  loc := by decide +kernel
  cell := by decide +kernel
  co := rfl
  gen := rfl
  k := rfl
  hks := rfl
  hkc := rfl
  few := by decide
  some_ := by decide
structure Tx (P : Program) (K : PySem.W.Frag) (mg : Str → Option Value) : Prop where
  F_Form___str__ : FnD' K ("Form", some "__str__") "__str__" "Form.__str__" s_Form___str__
  F_Both___str__ : FnD' K ("Both", some "__str__") "__str__" "Both.__str__" s_Both___str__
  F_Either___str__ : FnD' K ("Either", some "__str__") "__str__" "Either.__str__" s_Either___str__
  F_law_odd : FnD' K ("_law_odd", none) "_law_odd" "_law_odd" s_law_odd
  g_law_odd : mg "_law_odd" = some (.ref (He.ga K "_law_odd"))
  F_Pattern___eq__ : FnD' K ("Pattern", some "__eq__") "__eq__" "Pattern.__eq__" s_Pattern___eq__
  F_law_pool : FnD' K ("_law_pool", none) "_law_pool" "_law_pool" s_law_pool
  g_law_pool : mg "_law_pool" = some (.ref (He.ga K "_law_pool"))
  F_law_shown : FnD' K ("_law_shown", none) "_law_shown" "_law_shown" s_law_shown
  g_law_shown : mg "_law_shown" = some (.ref (He.ga K "_law_shown"))
  F_law_take : FnD' K ("_law_take", none) "_law_take" "_law_take" s_law_take
  g_law_take : mg "_law_take" = some (.ref (He.ga K "_law_take"))
  F_law_sign : FnD' K ("_law_sign", none) "_law_sign" "_law_sign" s_law_sign
  g_law_sign : mg "_law_sign" = some (.ref (He.ga K "_law_sign"))
  F_law_bent : FnD' K ("_law_bent", none) "_law_bent" "_law_bent" s_law_bent
  g_law_bent : mg "_law_bent" = some (.ref (He.ga K "_law_bent"))
  F_middle_of : FnD' K ("middle_of", none) "middle_of" "middle_of" s_middle_of
  g_middle_of : mg "middle_of" = some (.ref (He.ga K "middle_of"))
  F_Form_forms : FnD' K ("Form", some "forms") "forms" "Form.forms" s_Form_forms
  F_Either_forms : FnD' K ("Either", some "forms") "forms" "Either.forms" s_Either_forms
  F_Both_forms : FnD' K ("Both", some "forms") "forms" "Both.forms" s_Both_forms
  F_Both___init__ : FnD' K ("Both", some "__init__") "__init__" "Both.__init__" s_Both___init__
  F_Pattern___and__ : FnD' K ("Pattern", some "__and__") "__and__" "Pattern.__and__" s_Pattern___and__
  F_Either___init__ : FnD' K ("Either", some "__init__") "__init__" "Either.__init__" s_Either___init__
  F_Pattern___or__ : FnD' K ("Pattern", some "__or__") "__or__" "Pattern.__or__" s_Pattern___or__
  F_parts_of : FnD' K ("parts_of", none) "parts_of" "parts_of" s_parts_of
  g_parts_of : mg "parts_of" = some (.ref (He.ga K "parts_of"))
  F_is_line : FnD' K ("is_line", none) "is_line" "is_line" s_is_line
  g_is_line : mg "is_line" = some (.ref (He.ga K "is_line"))
  F_is_allowed : FnD' K ("is_allowed", none) "is_allowed" "is_allowed" s_is_allowed
  g_is_allowed : mg "is_allowed" = some (.ref (He.ga K "is_allowed"))
  F_Form___init__ : FnD' K ("Form", some "__init__") "__init__" "Form.__init__" s_Form___init__
  F_pattern_of : FnD' K ("pattern_of", none) "pattern_of" "pattern_of" s_pattern_of
  g_pattern_of : mg "pattern_of" = some (.ref (He.ga K "pattern_of"))
  F_read_pattern : FnD' K ("read_pattern", none) "read_pattern" "read_pattern" s_read_pattern
  g_read_pattern : mg "read_pattern" = some (.ref (He.ga K "read_pattern"))
  F_law_refused : FnD' K ("_law_refused", none) "_law_refused" "_law_refused" s_law_refused
  g_law_refused : mg "_law_refused" = some (.ref (He.ga K "_law_refused"))
  F_law_all_signs : FnD' K ("_law_all_signs", none) "_law_all_signs" "_law_all_signs" s_law_all_signs
  g_law_all_signs : mg "_law_all_signs" = some (.ref (He.ga K "_law_all_signs"))
  F_law_text : FnD' K ("_law_text", none) "_law_text" "_law_text" s_law_text
  g_law_text : mg "_law_text" = some (.ref (He.ga K "_law_text"))
  F_law_rich : FnD' K ("_law_rich", none) "_law_rich" "_law_rich" s_law_rich
  g_law_rich : mg "_law_rich" = some (.ref (He.ga K "_law_rich"))
  F_law_shape : FnD' K ("_law_shape", none) "_law_shape" "_law_shape" s_law_shape
  g_law_shape : mg "_law_shape" = some (.ref (He.ga K "_law_shape"))
  F_law_same_or_none : FnD' K ("_law_same_or_none", none) "_law_same_or_none" "_law_same_or_none" s_law_same_or_none
  g_law_same_or_none : mg "_law_same_or_none" = some (.ref (He.ga K "_law_same_or_none"))
  F_law : FnD' K ("law", none) "law" "law" s_law
  g_law : mg "law" = some (.ref (He.ga K "law"))
  c_Form : Cls K (He.ga K "Form")
  gc_Form : mg "Form" = some (.ref (He.ga K "Form"))
  na_Form_pieces : NoAttr K (He.ga K "Form") "pieces"
  me_Form___str__ : Meth K (He.ga K "Form") "__str__" (He.fAd K ("Form", some "__str__"))
  me_Form_forms : Meth K (He.ga K "Form") "forms" (He.fAd K ("Form", some "forms"))
  mk_Form : Mk K (He.ga K "Form") (He.fAd K ("Form", some "__init__"))
  c_Both : Cls K (He.ga K "Both")
  gc_Both : mg "Both" = some (.ref (He.ga K "Both"))
  na_Both_left : NoAttr K (He.ga K "Both") "left"
  na_Both_right : NoAttr K (He.ga K "Both") "right"
  me_Both___str__ : Meth K (He.ga K "Both") "__str__" (He.fAd K ("Both", some "__str__"))
  me_Both_forms : Meth K (He.ga K "Both") "forms" (He.fAd K ("Both", some "forms"))
  mk_Both : Mk K (He.ga K "Both") (He.fAd K ("Both", some "__init__"))
  c_Either : Cls K (He.ga K "Either")
  gc_Either : mg "Either" = some (.ref (He.ga K "Either"))
  na_Either_left : NoAttr K (He.ga K "Either") "left"
  na_Either_right : NoAttr K (He.ga K "Either") "right"
  me_Either___str__ : Meth K (He.ga K "Either") "__str__" (He.fAd K ("Either", some "__str__"))
  me_Either_forms : Meth K (He.ga K "Either") "forms" (He.fAd K ("Either", some "forms"))
  mk_Either : Mk K (He.ga K "Either") (He.fAd K ("Either", some "__init__"))
  c_Pattern : Cls K (He.ga K "Pattern")
  gc_Pattern : mg "Pattern" = some (.ref (He.ga K "Pattern"))
  me_Pattern___eq__ : Meth K (He.ga K "Pattern") "__eq__" (He.fAd K ("Pattern", some "__eq__"))
  me_Pattern___and__ : Meth K (He.ga K "Pattern") "__and__" (He.fAd K ("Pattern", some "__and__"))
  me_Pattern___or__ : Meth K (He.ga K "Pattern") "__or__" (He.fAd K ("Pattern", some "__or__"))
  pf : PatF K
  er_NoForm : Er P K mg "NoForm" "NoForm.__init__" (defArgs si_NoForm) (defBody si_NoForm) (defScope si_NoForm) ["at"]
  er_NoText : Er P K mg "NoText" "NoText.__init__" (defArgs si_NoText) (defBody si_NoText) (defScope si_NoText) ["text"]
  gx_GlueError : mg "GlueError" = some (.ref (He.ga K "GlueError"))
  gx_NoForm : mg "NoForm" = some (.ref (He.ga K "NoForm"))
  gx_NoText : mg "NoText" = some (.ref (He.ga K "NoText"))
  xm_NoForm_NoForm : PySem.W.exmOne K (.ref (He.ga K "NoForm")) (.ref (He.ga K "NoForm")) = some true
  xm_NoText_NoText : PySem.W.exmOne K (.ref (He.ga K "NoText")) (.ref (He.ga K "NoText")) = some true
  xn_NoText_NoForm : PySem.W.exmOne K (.ref (He.ga K "NoText")) (.ref (He.ga K "NoForm")) = some false
  ie_NoText : isEB K (He.ga K "NoText") = true
  ki_NoText_GlueError : kitB K (He.ga K "NoText") (.ref (He.ga K "GlueError")) true = true
  ki_NoText_NoForm : kitB K (He.ga K "NoText") (.ref (He.ga K "NoForm")) false = true
  ki_NoText_ValueError : kitB K (He.ga K "NoText") (.type "ValueError") true = true
  k_ANY_CELL : ∃ t, mg "ANY_CELL" = some (.str "<any>" t)
  g_FREE_CELLS : mg "FREE_CELLS" = some (.ref (He.ga K "FREE_CELLS"))
  q_FREE_CELLS : ∀ F : Hp, (qT qS).r K F (.ref (He.ga K "FREE_CELLS")) (["<digits>", "<word>", "<any>"] : List Str)
  k_MOST_FORMS : ∃ t, mg "MOST_FORMS" = some (.int 3 t)
  k_MOST_PARTS : ∃ t, mg "MOST_PARTS" = some (.int 4 t)
  k_MOST_SIGNS : ∃ t, mg "MOST_SIGNS" = some (.int 4 t)
  k_SIGNS : ∃ t, mg "SIGNS" = some (.str " #-.0123456789:>ABCDEFGHIJKLMNOPQRSTUVWXYZabcdefghijklmnopqrstuvwxyz" t)
  n_ValueError : mg "ValueError" = none
  n_enumerate : mg "enumerate" = none
  n_int : mg "int" = none
  n_isinstance : mg "isinstance" = none
  n_len : mg "len" = none
  n_max : mg "max" = none
  n_min : mg "min" = none
  n_range : mg "range" = none
  n_str : mg "str" = none
section
variable {P : Program} {w : World} {K : PySem.W.Frag} {mg : Str → Option Value} {base : Heap}
theorem fld_Form_pieces {P0' : Addr → Prop} {F0 H0 F H : Hp} {v : V} {a : (List Str)} {Q : VK} (T : Tx P K mg) (S : Sx P0' F0 H0 F H) (r : qForm.r K F v a) (k : ∀ u, (qT qS).r K F u a → Q u H) : fdK K "pieces" Q v H := by
  obtain ⟨p, dx, u0, rfl, h2, k0⟩ := r
  exact fd_at (S.sub _ _ h2) T.c_Form T.na_Form_pieces (by rfl) (k _ k0)
theorem mt_Form___str__ {P0' : Addr → Prop} {F0 H0 F H : Hp} {v : V} {a : (List Str)} {G : V → Hp → Prop} (S : Sx P0' F0 H0 F H) (r : qForm.r K F v a) (k : G v H) : mtK (He.ga K "Form") "__str__" G v H := by
  obtain ⟨p, dx, u0, rfl, h2, k0⟩ := r
  exact mt_at (S.sub _ _ h2) (by rfl) k
theorem mt_Form_forms {P0' : Addr → Prop} {F0 H0 F H : Hp} {v : V} {a : (List Str)} {G : V → Hp → Prop} (S : Sx P0' F0 H0 F H) (r : qForm.r K F v a) (k : G v H) : mtK (He.ga K "Form") "forms" G v H := by
  obtain ⟨p, dx, u0, rfl, h2, k0⟩ := r
  exact mt_at (S.sub _ _ h2) (by rfl) k
theorem fld_Both_left {P0' : Addr → Prop} {F0 H0 F H : Hp} {v : V} {a : (Pat × Pat)} {Q : VK} (T : Tx P K mg) (S : Sx P0' F0 H0 F H) (r : qBoth.r K F v a) (k : ∀ u, qPat.r K F u a.1 → Q u H) : fdK K "left" Q v H := by
  obtain ⟨p, dx, u0, u1, rfl, h2, k0, k1⟩ := r
  exact fd_at (S.sub _ _ h2) T.c_Both T.na_Both_left (by rfl) (k _ k0)
theorem fld_Both_right {P0' : Addr → Prop} {F0 H0 F H : Hp} {v : V} {a : (Pat × Pat)} {Q : VK} (T : Tx P K mg) (S : Sx P0' F0 H0 F H) (r : qBoth.r K F v a) (k : ∀ u, qPat.r K F u a.2 → Q u H) : fdK K "right" Q v H := by
  obtain ⟨p, dx, u0, u1, rfl, h2, k0, k1⟩ := r
  exact fd_at (S.sub _ _ h2) T.c_Both T.na_Both_right (by rfl) (k _ k1)
theorem mt_Both___str__ {P0' : Addr → Prop} {F0 H0 F H : Hp} {v : V} {a : (Pat × Pat)} {G : V → Hp → Prop} (S : Sx P0' F0 H0 F H) (r : qBoth.r K F v a) (k : G v H) : mtK (He.ga K "Both") "__str__" G v H := by
  obtain ⟨p, dx, u0, u1, rfl, h2, k0, k1⟩ := r
  exact mt_at (S.sub _ _ h2) (by rfl) k
theorem mt_Both_forms {P0' : Addr → Prop} {F0 H0 F H : Hp} {v : V} {a : (Pat × Pat)} {G : V → Hp → Prop} (S : Sx P0' F0 H0 F H) (r : qBoth.r K F v a) (k : G v H) : mtK (He.ga K "Both") "forms" G v H := by
  obtain ⟨p, dx, u0, u1, rfl, h2, k0, k1⟩ := r
  exact mt_at (S.sub _ _ h2) (by rfl) k
theorem fld_Either_left {P0' : Addr → Prop} {F0 H0 F H : Hp} {v : V} {a : (Pat × Pat)} {Q : VK} (T : Tx P K mg) (S : Sx P0' F0 H0 F H) (r : qEither.r K F v a) (k : ∀ u, qPat.r K F u a.1 → Q u H) : fdK K "left" Q v H := by
  obtain ⟨p, dx, u0, u1, rfl, h2, k0, k1⟩ := r
  exact fd_at (S.sub _ _ h2) T.c_Either T.na_Either_left (by rfl) (k _ k0)
theorem fld_Either_right {P0' : Addr → Prop} {F0 H0 F H : Hp} {v : V} {a : (Pat × Pat)} {Q : VK} (T : Tx P K mg) (S : Sx P0' F0 H0 F H) (r : qEither.r K F v a) (k : ∀ u, qPat.r K F u a.2 → Q u H) : fdK K "right" Q v H := by
  obtain ⟨p, dx, u0, u1, rfl, h2, k0, k1⟩ := r
  exact fd_at (S.sub _ _ h2) T.c_Either T.na_Either_right (by rfl) (k _ k1)
theorem mt_Either___str__ {P0' : Addr → Prop} {F0 H0 F H : Hp} {v : V} {a : (Pat × Pat)} {G : V → Hp → Prop} (S : Sx P0' F0 H0 F H) (r : qEither.r K F v a) (k : G v H) : mtK (He.ga K "Either") "__str__" G v H := by
  obtain ⟨p, dx, u0, u1, rfl, h2, k0, k1⟩ := r
  exact mt_at (S.sub _ _ h2) (by rfl) k
theorem mt_Either_forms {P0' : Addr → Prop} {F0 H0 F H : Hp} {v : V} {a : (Pat × Pat)} {G : V → Hp → Prop} (S : Sx P0' F0 H0 F H) (r : qEither.r K F v a) (k : G v H) : mtK (He.ga K "Either") "forms" G v H := by
  obtain ⟨p, dx, u0, u1, rfl, h2, k0, k1⟩ := r
  exact mt_at (S.sub _ _ h2) (by rfl) k
def sp_Form___str__ (K : PySem.W.Frag) : Sp := fun vs H Q _ => ∃ (F : Hp) (v_self : V) (a_self : (List Str)) (r : Str), vs = [v_self] ∧ Same F H ∧ qForm.r K F v_self a_self ∧ m_Form___str__ a_self = some r ∧ ∀ v F' H', Sx P0 F H F' H' → qS.r K F' v r → Q v H'
theorem sc_Form___str__ : FnScope ["self"] ["self"] (defScope s_Form___str__) := ⟨rfl, rfl, rfl, by decide +kernel, rfl, by decide +kernel, by decide +kernel⟩
theorem bn_Form___str__ (T : Tx P K mg) : Binds K (fdOf K ("Form", some "__str__")) ["self"] [] := FunD.bindsN T.F_Form___str__ fun _ _ _ _ _ _ us hl => match us, hl with | [_], _ => rfl
theorem ok_Form___str__ (T : Tx P K mg) : FnOk P w K mg base CX0 1 (He.fAd K ("Form", some "__str__")) (fdOf K ("Form", some "__str__")) ["self"] (sp_Form___str__ K) := by
  refine FunD.ok T.F_Form___str__ sc_Form___str__ (fun vs H0 Q E h => ?_) (fun cdv A outer s H0 vs Q E hr h => ?_)
  · obtain ⟨_, _, _, _, rfl, _⟩ := h
    rfl
  · obtain ⟨F0, v_self, a_self, r, rfl, hE, f_self, hm, hQ⟩ := h
    refine ⟨_, PSs.nox ((pss_one (ps_ret (pe_bmK (K := K) PySem.F.plainAttrs_str PySem.F.slot_str_join PySem.F.type_str_join (mt_joinKK (K := K)) pe_str (pa_cons (pe_fldK (pv 0) rfl) pa_nil))))), ?_⟩
    have S : Sx P0 F0 H0 F0 H0 := Sx.refl0 hE
    unfold m_Form___str__ at hm
    refine rd_ret ?_
    refine rd_bm ?_
    refine rd_c ?_
    refine rd_ty (tyS_str) ?_
    refine rd_cons ?_
    refine rd_fld ?_
    refine rd_v rfl ?_
    refine fld_Form_pieces T S f_self (fun u1 f2 => ?_)
    obtain ⟨g3, hm⟩ := gd_some hm
    cases hm
    refine rd_nil ?_
    refine rd_join (S.t f2).q g3 ?_
    exact hQ _ _ _ S rfl
theorem okv_Form_str (T : Tx P K mg) (n : Nat) : FnOk P w K mg base CX0 (3 * n + 1) (He.fAd K ("Form", some "__str__")) (fdOf K ("Form", some "__str__")) ["self"] (sp_pat_str n "Form" K) := by
  refine ((ok_Form___str__ T).mono (by omega)).imp fun vs H0 Q E h => ?_
  obtain ⟨F0, v, a, r, rfl, hE, f, hc, hm, hQ⟩ := h
  obtain ⟨h1, h2, h3⟩ := patN_some hm
  cases a with
    | both _ _ => exact absurd (show ("Both" : Str) = "Form" from hc) (by decide)
    | either _ _ => exact absurd (show ("Either" : Str) = "Form" from hc) (by decide)
    | form a =>
    exact ⟨F0, v, a, r, rfl, hE, f, h3, hQ⟩
theorem sc_Both_str : FnScope ["self"] ["self"] (defScope s_Both___str__) := ⟨rfl, rfl, rfl, by decide +kernel, rfl, by decide +kernel, by decide +kernel⟩
theorem bn_Both_str (T : Tx P K mg) : Binds K (fdOf K ("Both", some "__str__")) ["self"] [] := FunD.bindsN T.F_Both___str__ fun _ _ _ _ _ _ us hl => match us, hl with | [_], _ => rfl
theorem okv_Both_str (T : Tx P K mg) {n : Nat} (V : VM P w K mg base (3 * n + 1) "__str__" ["self"] (fun x => sp_pat_str n x K)) : FnOk P w K mg base CX0 (3 * n + 4) (He.fAd K ("Both", some "__str__")) (fdOf K ("Both", some "__str__")) ["self"] (sp_pat_str (n + 1) "Both" K) := by
  refine FunD.ok T.F_Both___str__ sc_Both_str (fun vs H0 Q E h => ?_) (fun cdv A outer s H0 vs Q E hr h => ?_)
  · obtain ⟨_, _, _, _, rfl, _⟩ := h
    rfl
  · obtain ⟨F0, v, a, r, rfl, hE, f, hc, hm, hQ⟩ := h
    obtain ⟨h1, h2, h3⟩ := patN_some hm
    cases a with
    | form _ => exact absurd (show ("Form" : Str) = "Both" from hc) (by decide)
    | either _ _ => exact absurd (show ("Either" : Str) = "Both" from hc) (by decide)
    | both l r' =>
    obtain ⟨p, dx, u, w', rfl, e2, rl, rr⟩ := (show qPatR K F0 v (.both l r') from f)
    replace rl : qPat.r K F0 u l := rl
    replace rr : qPat.r K F0 w' r' := rr
    have hl : l.ht ≤ n ∧ r'.ht ≤ n := by
      have h1 : max l.ht r'.ht + 1 ≤ n + 1 := h1
      omega
    have hf : l.forms.length + r'.forms.length ≤ 16 := by
      have h2 : (l.forms ++ r'.forms).length ≤ 16 := h2
      rw [List.length_append] at h2
      exact h2
    obtain ⟨x, ex, h3⟩ := bd_some (show (l.str.bind fun x => r'.str.bind fun y => gd (joinPok (" & " : Str) x y) (some (joinP (" & " : Str) x y))) = some r from h3)
    obtain ⟨y, ey, h3⟩ := bd_some h3
    obtain ⟨g, h3⟩ := gd_some h3
    cases h3
    obtain ⟨g1, g2, g3, g4, g5, g6, g7⟩ := joinPok_len g
    refine ⟨_, PSs.nox (pss_one (ps_ret (pe_joined (.cons pe_str (.cons (pe_fmt (pe_callTy (r := rStrW P w K mg base (3 * n + 1)) (cr_strW (hr.mono (by omega))) (by rfl) T.n_str (by decide +kernel) (pa_cons (pe_fldK (pv 0) rfl) pa_nil))) (.cons pe_str (.cons (pe_fmt (pe_callTy (r := rStrW P w K mg base (3 * n + 1)) (cr_strW (hr.mono (by omega))) (by rfl) T.n_str (by decide +kernel) (pa_cons (pe_fldK (pv 0) rfl) pa_nil))) (.cons pe_str .nil)))))))), ?_⟩
    have S : Sx P0 F0 H0 F0 H0 := Sx.refl0 hE
    refine rd_ret ?_
    refine rd_js ?_
    refine rd_c ?_
    refine js_at g3 ?_
    refine rd_js ?_
    refine rd_fm ?_
    refine rd_cb ?_
    refine rd_cons ?_
    refine rd_fld ?_
    refine rd_v rfl ?_
    refine fd_at (S.sub _ _ e2) T.c_Both T.na_Both_left (by rfl) ?_
    refine rd_nil ?_
    refine V.strW S rl ?_
    refine ⟨F0, _, _, _, rfl, S.sub, rl, rfl, (patN_of hl.1 (by omega)).trans ex, fun v1 F1 H1 c1 f1 => ?_⟩
    cases (show v1 = .str x from f1)
    have S1 := S.call0 c1
    have rr := qPat.mono c1.le rr
    refine rd_stK ?_
    refine fm_at g1 ?_
    refine js_at g4 ?_
    refine rd_js ?_
    refine rd_c ?_
    refine js_at g5 ?_
    refine rd_js ?_
    refine rd_fm ?_
    refine rd_cb ?_
    refine rd_cons ?_
    refine rd_fld ?_
    refine rd_v rfl ?_
    refine fd_at (S1.sub _ _ (S1.le _ _ e2)) T.c_Both T.na_Both_right (by rfl) ?_
    refine rd_nil ?_
    refine V.strW S1 rr ?_
    refine ⟨F1, _, _, _, rfl, S1.sub, rr, rfl, (patN_of hl.2 (by omega)).trans ey, fun v2 F2 H2 c2 f2 => ?_⟩
    cases (show v2 = .str y from f2)
    have S2 := S1.call0 c2
    refine rd_stK ?_
    refine fm_at g2 ?_
    refine js_at g6 ?_
    refine rd_js ?_
    refine rd_c ?_
    refine js_at g7 ?_
    refine rd_js0 ?_
    exact hQ _ _ _ S2 rfl
theorem sc_Either_str : FnScope ["self"] ["self"] (defScope s_Either___str__) := ⟨rfl, rfl, rfl, by decide +kernel, rfl, by decide +kernel, by decide +kernel⟩
theorem bn_Either_str (T : Tx P K mg) : Binds K (fdOf K ("Either", some "__str__")) ["self"] [] := FunD.bindsN T.F_Either___str__ fun _ _ _ _ _ _ us hl => match us, hl with | [_], _ => rfl
theorem okv_Either_str (T : Tx P K mg) {n : Nat} (V : VM P w K mg base (3 * n + 1) "__str__" ["self"] (fun x => sp_pat_str n x K)) : FnOk P w K mg base CX0 (3 * n + 4) (He.fAd K ("Either", some "__str__")) (fdOf K ("Either", some "__str__")) ["self"] (sp_pat_str (n + 1) "Either" K) := by
  refine FunD.ok T.F_Either___str__ sc_Either_str (fun vs H0 Q E h => ?_) (fun cdv A outer s H0 vs Q E hr h => ?_)
  · obtain ⟨_, _, _, _, rfl, _⟩ := h
    rfl
  · obtain ⟨F0, v, a, r, rfl, hE, f, hc, hm, hQ⟩ := h
    obtain ⟨h1, h2, h3⟩ := patN_some hm
    cases a with
    | form _ => exact absurd (show ("Form" : Str) = "Either" from hc) (by decide)
    | both _ _ => exact absurd (show ("Both" : Str) = "Either" from hc) (by decide)
    | either l r' =>
    obtain ⟨p, dx, u, w', rfl, e2, rl, rr⟩ := (show qPatR K F0 v (.either l r') from f)
    replace rl : qPat.r K F0 u l := rl
    replace rr : qPat.r K F0 w' r' := rr
    have hl : l.ht ≤ n ∧ r'.ht ≤ n := by
      have h1 : max l.ht r'.ht + 1 ≤ n + 1 := h1
      omega
    have hf : l.forms.length + r'.forms.length ≤ 16 := by
      have h2 : (l.forms ++ r'.forms).length ≤ 16 := h2
      rw [List.length_append] at h2
      exact h2
    obtain ⟨x, ex, h3⟩ := bd_some (show (l.str.bind fun x => r'.str.bind fun y => gd (joinPok (" | " : Str) x y) (some (joinP (" | " : Str) x y))) = some r from h3)
    obtain ⟨y, ey, h3⟩ := bd_some h3
    obtain ⟨g, h3⟩ := gd_some h3
    cases h3
    obtain ⟨g1, g2, g3, g4, g5, g6, g7⟩ := joinPok_len g
    refine ⟨_, PSs.nox (pss_one (ps_ret (pe_joined (.cons pe_str (.cons (pe_fmt (pe_callTy (r := rStrW P w K mg base (3 * n + 1)) (cr_strW (hr.mono (by omega))) (by rfl) T.n_str (by decide +kernel) (pa_cons (pe_fldK (pv 0) rfl) pa_nil))) (.cons pe_str (.cons (pe_fmt (pe_callTy (r := rStrW P w K mg base (3 * n + 1)) (cr_strW (hr.mono (by omega))) (by rfl) T.n_str (by decide +kernel) (pa_cons (pe_fldK (pv 0) rfl) pa_nil))) (.cons pe_str .nil)))))))), ?_⟩
    have S : Sx P0 F0 H0 F0 H0 := Sx.refl0 hE
    refine rd_ret ?_
    refine rd_js ?_
    refine rd_c ?_
    refine js_at g3 ?_
    refine rd_js ?_
    refine rd_fm ?_
    refine rd_cb ?_
    refine rd_cons ?_
    refine rd_fld ?_
    refine rd_v rfl ?_
    refine fd_at (S.sub _ _ e2) T.c_Either T.na_Either_left (by rfl) ?_
    refine rd_nil ?_
    refine V.strW S rl ?_
    refine ⟨F0, _, _, _, rfl, S.sub, rl, rfl, (patN_of hl.1 (by omega)).trans ex, fun v1 F1 H1 c1 f1 => ?_⟩
    cases (show v1 = .str x from f1)
    have S1 := S.call0 c1
    have rr := qPat.mono c1.le rr
    refine rd_stK ?_
    refine fm_at g1 ?_
    refine js_at g4 ?_
    refine rd_js ?_
    refine rd_c ?_
    refine js_at g5 ?_
    refine rd_js ?_
    refine rd_fm ?_
    refine rd_cb ?_
    refine rd_cons ?_
    refine rd_fld ?_
    refine rd_v rfl ?_
    refine fd_at (S1.sub _ _ (S1.le _ _ e2)) T.c_Either T.na_Either_right (by rfl) ?_
    refine rd_nil ?_
    refine V.strW S1 rr ?_
    refine ⟨F1, _, _, _, rfl, S1.sub, rr, rfl, (patN_of hl.2 (by omega)).trans ey, fun v2 F2 H2 c2 f2 => ?_⟩
    cases (show v2 = .str y from f2)
    have S2 := S1.call0 c2
    refine rd_stK ?_
    refine fm_at g2 ?_
    refine js_at g6 ?_
    refine rd_js ?_
    refine rd_c ?_
    refine js_at g7 ?_
    refine rd_js0 ?_
    exact hQ _ _ _ S2 rfl
theorem okv_void_str {C : Str} (hC : C = "Both" ∨ C = "Either") : FnOk P w K mg base CX0 1 (He.fAd K (C, some "__str__")) (fdOf K (C, some "__str__")) ["self"] (sp_pat_str 0 C K) := by
  have no : ∀ vs H Q E, ¬ sp_pat_str 0 C K vs H Q E := by
    intro vs H Q E h
    obtain ⟨_, _, a, _, _, _, _, hc, hm, _⟩ := h
    obtain ⟨h1, _, _⟩ := patN_some hm
    cases a with
    | form _ =>
      subst hc
      rcases hC with h | h
      · exact absurd (show ("Form" : Str) = "Both" from h) (by decide)
      · exact absurd (show ("Form" : Str) = "Either" from h) (by decide)
    | both l r => exact absurd (show max l.ht r.ht + 1 ≤ 0 from h1) (by omega)
    | either l r => exact absurd (show max l.ht r.ht + 1 ≤ 0 from h1) (by omega)
  exact ⟨fun vs H Q E h => absurd h (no vs H Q E), fun A outer s H args us vs Q E hr he hb hv h => absurd h (no vs H Q E)⟩
theorem vm_str (T : Tx P K mg) : ∀ n, VM P w K mg base (3 * n + 1) "__str__" ["self"] (fun x => sp_pat_str n x K)
  | 0 => ⟨fun x hx => by
    rcases hx with rfl | rfl | rfl
    · exact ⟨T.c_Form, T.me_Form___str__, okv_Form_str T 0, bn_Form___str__ T⟩
    · exact ⟨T.c_Both, T.me_Both___str__, okv_void_str (.inl rfl), bn_Both_str T⟩
    · exact ⟨T.c_Either, T.me_Either___str__, okv_void_str (.inr rfl), bn_Either_str T⟩⟩
  | n + 1 => ⟨fun x hx => by
    have V := vm_str T n
    rcases hx with rfl | rfl | rfl
    · exact ⟨T.c_Form, T.me_Form___str__, okv_Form_str T (n + 1), bn_Form___str__ T⟩
    · exact ⟨T.c_Both, T.me_Both___str__, okv_Both_str T V, bn_Both_str T⟩
    · exact ⟨T.c_Either, T.me_Either___str__, okv_Either_str T V, bn_Either_str T⟩⟩
def sp_law_odd (K : PySem.W.Frag) : Sp := fun vs H Q _ => ∃ (F : Hp)  (r : (List Str)), vs = [] ∧ Same F H ∧ m_law_odd = some r ∧ ∀ v F' H', Sx P0 F H F' H' → (qL qS).r K F' v r → Q v H'
theorem sc_law_odd : FnScope ["_law_some"] [] (defScope s_law_odd) := ⟨rfl, rfl, rfl, by decide +kernel, rfl, by decide +kernel, by decide +kernel⟩
theorem bn_law_odd (T : Tx P K mg) : Binds K (fdOf K ("_law_odd", none)) [] [] := FunD.bindsN T.F_law_odd fun _ _ _ _ _ _ us hl => match us, hl with | [], _ => rfl
theorem ok_law_odd (T : Tx P K mg) : FnOk P w K mg base CX0 1 (He.ga K "_law_odd") (fdOf K ("_law_odd", none)) [] (sp_law_odd K) := by
  refine FunD.ok T.F_law_odd sc_law_odd (fun vs H0 Q E h => ?_) (fun cdv A outer s H0 vs Q E hr h => ?_)
  · obtain ⟨_, _, rfl, _⟩ := h
    rfl
  · obtain ⟨F0, r, rfl, hE, hm, hQ⟩ := h
    refine ⟨_, PSs.nox ((pss_cons (ps_set (i := 0) sc_law_odd.nd rfl (dk rfl) (pe_lst (pa_cons pe_str (pa_cons pe_str (pa_cons pe_str (pa_cons pe_str (pa_cons pe_str (pa_cons pe_str (pa_cons pe_str (pa_cons pe_str (pa_cons pe_str (pa_cons pe_str (pa_cons pe_str (pa_cons pe_str pa_nil)))))))))))))) (pss_cons (ps_set (i := 0) sc_law_odd.nd rfl (dk rfl) (pe_op op_cat (pv 0) (pe_lst (pa_cons pe_str (pa_cons pe_str (pa_cons pe_str (pa_cons pe_str (pa_cons pe_str (pa_cons pe_str (pa_cons pe_str (pa_cons pe_str (pa_cons pe_str pa_nil)))))))))))) (pss_cons (ps_set (i := 0) sc_law_odd.nd rfl (dk rfl) (pe_op op_cat (pv 0) (pe_lst (pa_cons pe_str (pa_cons pe_str (pa_cons pe_str (pa_cons pe_str (pa_cons pe_str (pa_cons pe_str (pa_cons pe_str (pa_cons pe_str pa_nil))))))))))) (pss_cons (ps_set (i := 0) sc_law_odd.nd rfl (dk rfl) (pe_op op_cat (pv 0) (pe_lst (pa_cons pe_str (pa_cons pe_str (pa_cons pe_str (pa_cons pe_str pa_nil))))))) (pss_cons (ps_set (i := 0) sc_law_odd.nd rfl (dk rfl) (pe_op op_cat (pv 0) (pe_lst (pa_cons pe_str (pa_cons pe_str pa_nil))))) (pss_one (ps_ret (pe_op op_cat (pv 0) (pe_lst (pa_cons (pe_op op_catS (pe_op op_repS pe_str pe_int) pe_str) (pa_cons (pe_op op_catS (pe_op op_catS (pe_op op_repS pe_str pe_int) pe_str) (pe_op op_repS pe_str pe_int)) (pa_cons pe_str (pa_cons pe_str (pa_cons pe_str (pa_cons pe_str pa_nil)))))))))))))))), ?_⟩
    have S : Sx P0 F0 H0 F0 H0 := Sx.refl0 hE
    unfold m_law_odd at hm
    refine rd_seq ?_
    refine rd_asg ?_
    refine rd_lst ?_
    refine rd_cons ?_
    refine rd_c ?_
    refine rd_cons ?_
    refine rd_c ?_
    refine rd_cons ?_
    refine rd_c ?_
    refine rd_cons ?_
    refine rd_c ?_
    refine rd_cons ?_
    refine rd_c ?_
    refine rd_cons ?_
    refine rd_c ?_
    refine rd_cons ?_
    refine rd_c ?_
    refine rd_cons ?_
    refine rd_c ?_
    refine rd_cons ?_
    refine rd_c ?_
    refine rd_cons ?_
    refine rd_c ?_
    refine rd_cons ?_
    refine rd_c ?_
    refine rd_cons ?_
    refine rd_c ?_
    refine rd_nil ?_
    refine rd_lK rfl ?_
    refine alL (K := K) (A := qS) (xs := [("" : Str), ("<" : Str), (">a<" : Str), ("<any" : Str), ("any>>(" : Str), ("<any><any>" : Str), ("abcde" : Str), ("<any>a<any>" : Str), ("(a)" : Str), ("(a & b" : Str), ("a & b" : Str), ("a | b" : Str)]) S (.cons rfl (.cons rfl (.cons rfl (.cons rfl (.cons rfl (.cons rfl (.cons rfl (.cons rfl (.cons rfl (.cons rfl (.cons rfl (.cons rfl .nil)))))))))))) (fun v1 F2 H3 c4 f5 => ?_)
    have S6 := S.call0 c4
    refine rd_gn ?_
    refine rd_seq ?_
    refine rd_asg ?_
    refine rd_op ?_
    refine rd_v rfl ?_
    refine rd_lst ?_
    refine rd_cons ?_
    refine rd_c ?_
    refine rd_cons ?_
    refine rd_c ?_
    refine rd_cons ?_
    refine rd_c ?_
    refine rd_cons ?_
    refine rd_c ?_
    refine rd_cons ?_
    refine rd_c ?_
    refine rd_cons ?_
    refine rd_c ?_
    refine rd_cons ?_
    refine rd_c ?_
    refine rd_cons ?_
    refine rd_c ?_
    refine rd_cons ?_
    refine rd_c ?_
    refine rd_nil ?_
    refine rd_lK rfl ?_
    refine alL (K := K) (A := qS) (xs := [("(a &b)" : Str), ("(a& b)" : Str), ("(a & )" : Str), ("( & b)" : Str), ("(a ^ b)" : Str), ("(a & b) " : Str), (" (a & b)" : Str), ("((a & b))" : Str), ("()" : Str)]) S6 (.cons rfl (.cons rfl (.cons rfl (.cons rfl (.cons rfl (.cons rfl (.cons rfl (.cons rfl (.cons rfl .nil))))))))) (fun v7 F8 H9 c10 f11 => ?_)
    have S12 := S6.call0 c10
    have f5 := (qL qS).mono c10.le f5
    obtain ⟨g13, hm⟩ := gd_some hm
    refine rd_cat (S12.l f5) (S12.l f11) g13 ?_
    refine alL' S12 (fun v14 F15 H16 c17 f18 => ?_)
    have S19 := S12.call0 c17
    have f5 := (qL qS).mono c17.le f5
    refine rd_gn ?_
    refine rd_seq ?_
    refine rd_asg ?_
    refine rd_op ?_
    refine rd_v rfl ?_
    refine rd_lst ?_
    refine rd_cons ?_
    refine rd_c ?_
    refine rd_cons ?_
    refine rd_c ?_
    refine rd_cons ?_
    refine rd_c ?_
    refine rd_cons ?_
    refine rd_c ?_
    refine rd_cons ?_
    refine rd_c ?_
    refine rd_cons ?_
    refine rd_c ?_
    refine rd_cons ?_
    refine rd_c ?_
    refine rd_cons ?_
    refine rd_c ?_
    refine rd_nil ?_
    refine rd_lK rfl ?_
    refine alL (K := K) (A := qS) (xs := [("(a & b & c)" : Str), ("(a | b) | c" : Str), ("((a & b) | (c & d))" : Str), ("(a & b)c" : Str), ("<Any>" : Str), ("<digits" : Str), ("a_b" : Str), ("a\n" : Str)]) S19 (.cons rfl (.cons rfl (.cons rfl (.cons rfl (.cons rfl (.cons rfl (.cons rfl (.cons rfl .nil)))))))) (fun v20 F21 H22 c23 f24 => ?_)
    have S25 := S19.call0 c23
    have f18 := (qL qS).mono c23.le f18
    obtain ⟨g26, hm⟩ := gd_some hm
    refine rd_cat (S25.l f18) (S25.l f24) g26 ?_
    refine alL' S25 (fun v27 F28 H29 c30 f31 => ?_)
    have S32 := S25.call0 c30
    have f18 := (qL qS).mono c30.le f18
    refine rd_gn ?_
    refine rd_seq ?_
    refine rd_asg ?_
    refine rd_op ?_
    refine rd_v rfl ?_
    refine rd_lst ?_
    refine rd_cons ?_
    refine rd_c ?_
    refine rd_cons ?_
    refine rd_c ?_
    refine rd_cons ?_
    refine rd_c ?_
    refine rd_cons ?_
    refine rd_c ?_
    refine rd_nil ?_
    refine rd_lK rfl ?_
    refine alL (K := K) (A := qS) (xs := [("<word><word><word><word><word>" : Str), ("a<digits>b<digits>c" : Str), ("<digits>abcd<word>efghi" : Str), ("(a && b)" : Str)]) S32 (.cons rfl (.cons rfl (.cons rfl (.cons rfl .nil)))) (fun v33 F34 H35 c36 f37 => ?_)
    have S38 := S32.call0 c36
    have f31 := (qL qS).mono c36.le f31
    obtain ⟨g39, hm⟩ := gd_some hm
    refine rd_cat (S38.l f31) (S38.l f37) g39 ?_
    refine alL' S38 (fun v40 F41 H42 c43 f44 => ?_)
    have S45 := S38.call0 c43
    have f31 := (qL qS).mono c43.le f31
    refine rd_gn ?_
    refine rd_seq ?_
    refine rd_asg ?_
    refine rd_op ?_
    refine rd_v rfl ?_
    refine rd_lst ?_
    refine rd_cons ?_
    refine rd_c ?_
    refine rd_cons ?_
    refine rd_c ?_
    refine rd_nil ?_
    refine rd_lK rfl ?_
    refine alL (K := K) (A := qS) (xs := [("(ab &cd)" : Str), ("(ab & cd" : Str)]) S45 (.cons rfl (.cons rfl .nil)) (fun v46 F47 H48 c49 f50 => ?_)
    have S51 := S45.call0 c49
    have f44 := (qL qS).mono c49.le f44
    obtain ⟨g52, hm⟩ := gd_some hm
    refine rd_cat (S51.l f44) (S51.l f50) g52 ?_
    refine alL' S51 (fun v53 F54 H55 c56 f57 => ?_)
    have S58 := S51.call0 c56
    have f44 := (qL qS).mono c56.le f44
    obtain ⟨g59, hm⟩ := gd_some hm
    obtain ⟨g60, hm⟩ := gd_some hm
    obtain ⟨g61, hm⟩ := gd_some hm
    obtain ⟨g62, hm⟩ := gd_some hm
    obtain ⟨g63, hm⟩ := gd_some hm
    obtain ⟨g64, hm⟩ := gd_some hm
    refine rd_gn ?_
    refine rd_ret ?_
    refine rd_op ?_
    refine rd_v rfl ?_
    refine rd_lst ?_
    refine rd_cons ?_
    refine rd_op ?_
    refine rd_op ?_
    refine rd_c ?_
    refine rd_c ?_
    refine rd_repS g59 ?_
    refine rd_c ?_
    refine rd_catS g60 ?_
    refine rd_cons ?_
    refine rd_op ?_
    refine rd_op ?_
    refine rd_op ?_
    refine rd_c ?_
    refine rd_c ?_
    refine rd_repS g61 ?_
    refine rd_c ?_
    refine rd_catS g62 ?_
    refine rd_op ?_
    refine rd_c ?_
    refine rd_c ?_
    refine rd_repS g63 ?_
    refine rd_catS g64 ?_
    refine rd_cons ?_
    refine rd_c ?_
    refine rd_cons ?_
    refine rd_c ?_
    refine rd_cons ?_
    refine rd_c ?_
    refine rd_cons ?_
    refine rd_c ?_
    refine rd_nil ?_
    refine rd_lK rfl ?_
    refine alL (K := K) (A := qS) (xs := [((repS ("(" : Str) 40) ++ ("a" : Str)), (((repS ("(a & " : Str) 20) ++ ("a" : Str)) ++ (repS (")" : Str) 20)), (")(" : Str), ("(a & b))" : Str), ("<any>(a & b)" : Str), ("(a | abcde)" : Str)]) S58 (.cons rfl (.cons rfl (.cons rfl (.cons rfl (.cons rfl (.cons rfl .nil)))))) (fun v65 F66 H67 c68 f69 => ?_)
    have S70 := S58.call0 c68
    have f57 := (qL qS).mono c68.le f57
    obtain ⟨g71, hm⟩ := gd_some hm
    refine rd_cat (S70.l f57) (S70.l f69) g71 ?_
    refine alL' S70 (fun v72 F73 H74 c75 f76 => ?_)
    have S77 := S70.call0 c75
    have f57 := (qL qS).mono c75.le f57
    cases hm
    exact hQ _ _ _ S77 f76
def sp_Pattern___eq__ (K : PySem.W.Frag) : Sp := fun vs H Q _ => ∃ (F : Hp) (v_self : V) (a_self : Pat) (v_other : V) (a_other : Pat) (r : Bool), vs = [v_self, v_other] ∧ Same F H ∧ qPat.r K F v_self a_self ∧ qPat.r K F v_other a_other ∧ m_Pattern___eq__ a_self a_other = some r ∧ ∀ v F' H', Sx P0 F H F' H' → qB.r K F' v r → Q v H'
theorem sc_Pattern___eq__ : FnScope ["self", "other"] ["self", "other"] (defScope s_Pattern___eq__) := ⟨rfl, rfl, rfl, by decide +kernel, rfl, by decide +kernel, by decide +kernel⟩
theorem bn_Pattern___eq__ (T : Tx P K mg) : Binds K (fdOf K ("Pattern", some "__eq__")) ["self", "other"] [] := FunD.bindsN T.F_Pattern___eq__ fun _ _ _ _ _ _ us hl => match us, hl with | [_, _], _ => rfl
theorem ok_Pattern___eq__ (T : Tx P K mg) : FnOk P w K mg base CX0 13 (He.fAd K ("Pattern", some "__eq__")) (fdOf K ("Pattern", some "__eq__")) ["self", "other"] (sp_Pattern___eq__ K) := by
  refine FunD.ok T.F_Pattern___eq__ sc_Pattern___eq__ (fun vs H0 Q E h => ?_) (fun cdv A outer s H0 vs Q E hr h => ?_)
  · obtain ⟨_, _, _, _, _, _, rfl, _⟩ := h
    rfl
  · obtain ⟨F0, v_self, a_self, v_other, a_other, r, rfl, hE, f_self, f_other, hm, hQ⟩ := h
    refine ⟨_, PSs.nox ((pss_one (ps_ret (pe_and (pe_callB (r := rIsi K) call_isi (by rfl) T.n_isinstance (by decide +kernel) (pa_cons (pv 1) (pa_cons (pe_glob (v := V.ref (He.ga K "Pattern")) (by rfl) T.gc_Pattern rfl) pa_nil))) (pe_one (pe_cmpR op_eqS (pe_callTy (r := rStrW P w K mg base 10) (cr_strW (hr.mono (by decide))) (by rfl) T.n_str (by decide +kernel) (pa_cons (pv 0) pa_nil)) (pe_callTy (r := rStrW P w K mg base 10) (cr_strW (hr.mono (by decide))) (by rfl) T.n_str (by decide +kernel) (pa_cons (pv 1) pa_nil)) (nomark _))))))), ?_⟩
    have S : Sx P0 F0 H0 F0 H0 := Sx.refl0 hE
    unfold m_Pattern___eq__ at hm
    refine rd_ret ?_
    refine rd_andV ?_
    refine rd_cb ?_
    refine rd_cons ?_
    refine rd_v rfl ?_
    refine rd_cons ?_
    refine rd_c ?_
    refine rd_nil ?_
    refine rd_isPat T.pf S f_other ?_
    refine rd_b ?_
    refine if_tt ?_
    refine rd_op ?_
    refine rd_cb ?_
    refine rd_cons ?_
    refine rd_v rfl ?_
    refine rd_nil ?_
    refine VM.strW (vm_str T 3) S f_self ?_
    obtain ⟨t1, e2, hm⟩ := bd_some hm
    refine ⟨F0, _, _, t1, rfl, S.sub, f_self, rfl, e2, fun v6 F3 H4 c5 f7 => ?_⟩
    have S8 := S.call0 c5
    have f_self := qPat.mono c5.le f_self
    have f_other := qPat.mono c5.le f_other
    cases (show v6 = (V.str (t1)) from f7)
    refine rd_stK ?_
    refine rd_cb ?_
    refine rd_cons ?_
    refine rd_v rfl ?_
    refine rd_nil ?_
    refine VM.strW (vm_str T 3) S8 f_other ?_
    obtain ⟨t9, e10, hm⟩ := bd_some hm
    refine ⟨F3, _, _, t9, rfl, S8.sub, f_other, rfl, e10, fun v14 F11 H12 c13 f15 => ?_⟩
    have S16 := S8.call0 c13
    have f_self := qPat.mono c13.le f_self
    have f_other := qPat.mono c13.le f_other
    cases (show v14 = (V.str (t9)) from f15)
    cases hm
    refine rd_stK ?_
    refine rd_S0 ?_
    exact hQ _ _ _ S16 rfl
def sp_law_pool (K : PySem.W.Frag) : Sp := fun vs H Q _ => ∃ (F : Hp) (v__law_script : V) (a__law_script : List Int) (a__law_k : Int) (r : (Int × Int)), vs = [v__law_script, (V.int (a__law_k))] ∧ Same F H ∧ qC.r K F v__law_script a__law_script ∧ m_law_pool a__law_script a__law_k = some r ∧ ∀ p F' H', H p = none → Sx P0 F H F' H' → Ow (fun a => a = p) H F' H' p (.lst [.int r.1, .int r.2]) → Q (.ref p) H'
theorem sc_law_pool : FnScope ["_law_script", "_law_k", "_law_cell", "_law_seed"] ["_law_script", "_law_k"] (defScope s_law_pool) := ⟨rfl, rfl, rfl, by decide +kernel, rfl, by decide +kernel, by decide +kernel⟩
theorem bn_law_pool (T : Tx P K mg) : Binds K (fdOf K ("_law_pool", none)) ["_law_script", "_law_k"] [] := FunD.bindsN T.F_law_pool fun _ _ _ _ _ _ us hl => match us, hl with | [_, _], _ => rfl
theorem ok_law_pool (T : Tx P K mg) : FnOk P w K mg base CX0 1 (He.ga K "_law_pool") (fdOf K ("_law_pool", none)) ["_law_script", "_law_k"] (sp_law_pool K) := by
  refine FunD.ok T.F_law_pool sc_law_pool (fun vs H0 Q E h => ?_) (fun cdv A outer s H0 vs Q E hr h => ?_)
  · obtain ⟨_, _, _, _, _, rfl, _⟩ := h
    rfl
  · obtain ⟨F0, v__law_script, a__law_script, a__law_k, r, rfl, hE, f__law_script, hm, hQ⟩ := h
    refine ⟨_, PSs.nox ((pss_cons (ps_set (i := 2) sc_law_pool.nd rfl (dk rfl) pe_int) (C8.pss_cut (ps_if (pt_cmpR (r := rNeD K) (op_neD hr.units) (pv 0) (pe_lst pa_nil) (nomark _)) (pss_one (ps_set (i := 2) sc_law_pool.nd rfl (dk rfl) (pe_ix (r := rIxL K) ix_list (pv 0) (pe_op op_mod (pe_callTy cr_int (by rfl) T.n_int (by decide +kernel) (pa_cons (pv 1) pa_nil)) (pe_callB (r := rLenQ K) cr_lenQ (by rfl) T.n_len (by decide +kernel) (pa_cons (pv 0) pa_nil))) (fun _ _ => rfl)))) pss_nil) (pss_cons (ps_set (i := 3) sc_law_pool.nd rfl (dk rfl) (pe_op op_mod (pe_op op_mul (pe_callTy cr_int (by rfl) T.n_int (by decide +kernel) (pa_cons (pe_op op_add (pe_op op_add (pe_op op_mod (pe_callTy cr_int (by rfl) T.n_int (by decide +kernel) (pa_cons (pv 2) pa_nil)) pe_int) (pe_op op_mul pe_int (pv 1))) pe_int) pa_nil)) pe_int) pe_int)) (pss_one (ps_ret (pe_lst (pa_cons (pe_op op_mul (pv 2) (pe_callTy cr_int (by rfl) T.n_int (by decide +kernel) (pa_cons (pe_cmpR op_ge (pv 2) (pe_op op_pow pe_int pe_int) (nomark _)) pa_nil))) (pa_cons (pv 3) pa_nil))))))))), ?_⟩
    have S : Sx P0 F0 H0 F0 H0 := Sx.refl0 hE
    unfold m_law_pool at hm
    obtain ⟨t1, e2, hm⟩ := bd_some hm
    refine rd_seq ?_
    refine rd_asg ?_
    refine rd_c ?_
    refine rd_gn ?_
    refine rd_cut (fun σ' H' => ∃ (F : Hp) (o3 : Option V), σ' = [some v__law_script, some (V.int (a__law_k)), some (V.int (t1)), o3] ∧ Sx P0 F0 H0 F H') ?_ ?_
    · skip
      have S3 := Sx.refl0 S.sub
      refine rd_ifS ?_
      refine rd_test ?_
      refine rd_op ?_
      refine rd_v rfl ?_
      refine rd_lst ?_
      refine rd_nil ?_
      refine rd_lK rfl ?_
      refine alL (K := K) (A := qI) (xs := ([] : List Int)) S3 .nil (fun v4 F5 H6 c7 f8 => ?_)
      have S9 := S3.call0 c7
      have f__law_script := qC.mono c7.le f__law_script
      obtain ⟨g10, e2⟩ := gd_some e2
      obtain ⟨g11, e2⟩ := gd_some e2
      refine rd_neD (D := (dL dI)) (S9.cd f__law_script) (S9.d (dL dI) f8) g10 g11 ?_
      refine rd_b ?_
      refine if_b e2 (fun b12 e2 => ?_) (fun b12 e2 => ?_)
      · skip
        obtain ⟨g13, e2⟩ := gd_some e2
        obtain ⟨t14, e15, e2⟩ := bd_some e2
        refine rd_asg ?_
        refine rd_op ?_
        refine rd_v rfl ?_
        refine rd_op ?_
        refine rd_cb ?_
        refine rd_cons ?_
        refine rd_v rfl ?_
        refine rd_nil ?_
        refine rd_intI ?_
        refine rd_cb ?_
        refine rd_cons ?_
        refine rd_v rfl ?_
        refine rd_nil ?_
        refine rd_lenQ (S9.c f__law_script).q ?_
        refine rd_I (modOk_of g13) ?_
        refine rd_ixL (S9.c f__law_script) e15 (fun u16 f17 => ?_)
        cases (show u16 = (V.int (t14)) from f17)
        cases e2
        refine rd_gn ?_
        exact ⟨F5, _, rfl, S9⟩
      · skip
        cases e2
        refine rd_next ?_
        exact ⟨F5, _, rfl, S9⟩
    · skip
      rintro σ19 H18 ⟨F20, o22, rfl, S21⟩
      have S23 := S.call0 S21
      have f__law_script := qC.mono S21.le f__law_script
      obtain ⟨g24, hm⟩ := gd_some hm
      obtain ⟨g25, hm⟩ := gd_some hm
      obtain ⟨g26, hm⟩ := gd_some hm
      obtain ⟨g27, hm⟩ := gd_some hm
      obtain ⟨g28, hm⟩ := gd_some hm
      obtain ⟨g29, hm⟩ := gd_some hm
      refine rd_seq ?_
      refine rd_asg ?_
      refine rd_op ?_
      refine rd_op ?_
      refine rd_cb ?_
      refine rd_cons ?_
      refine rd_op ?_
      refine rd_op ?_
      refine rd_op ?_
      refine rd_cb ?_
      refine rd_cons ?_
      refine rd_v rfl ?_
      refine rd_nil ?_
      refine rd_intI ?_
      refine rd_c ?_
      refine rd_I (modOk_of g24) ?_
      refine rd_op ?_
      refine rd_c ?_
      refine rd_v rfl ?_
      refine rd_I (mulOk_of g25) ?_
      refine rd_I0 ?_
      refine rd_c ?_
      refine rd_I0 ?_
      refine rd_nil ?_
      refine rd_intI ?_
      refine rd_c ?_
      refine rd_I (mulOk_of g26) ?_
      refine rd_c ?_
      refine rd_I (modOk_of g27) ?_
      refine rd_gn ?_
      refine rd_ret ?_
      refine rd_lst ?_
      refine rd_cons ?_
      refine rd_op ?_
      refine rd_v rfl ?_
      refine rd_cb ?_
      refine rd_cons ?_
      refine rd_op ?_
      refine rd_v rfl ?_
      refine rd_op ?_
      refine rd_c ?_
      refine rd_c ?_
      refine rd_I (powOk_of g28) ?_
      refine rd_I0 ?_
      refine rd_nil ?_
      refine rd_intB ?_
      refine rd_I (mulOk_of g29) ?_
      refine rd_cons ?_
      refine rd_v rfl ?_
      refine rd_nil ?_
      refine rd_lK rfl ?_
      refine al S23 (fun p30 H31 np32 c33 w34 => ?_)
      have z35 := S23.free0 np32
      have S36 := S23.call0 c33
      have f__law_script := qC.mono c33.le f__law_script
      cases hm
      exact hQ _ _ _ z35 S36 ⟨w34.fr, w34.at_, .inr rfl⟩
def sp_law_shown (n : Nat) (K : PySem.W.Frag) : Sp := fun vs H Q _ => ∃ (F : Hp) (v__law_shape_here : V) (a__law_shape_here : Shp) (v__law_drawn : V) (a__law_drawn : (List (List Str))) (r : Str), vs = [v__law_shape_here, v__law_drawn] ∧ Same F H ∧ qSh.r K F v__law_shape_here a__law_shape_here ∧ (qL (qL qS)).r K F v__law_drawn a__law_drawn ∧ m_law_shown n a__law_shape_here a__law_drawn = some r ∧ ∀ v F' H', Sx P0 F H F' H' → qS.r K F' v r → Q v H'
theorem sc_law_shown : FnScope ["_law_shape_here", "_law_drawn"] ["_law_shape_here", "_law_drawn"] (defScope s_law_shown) := ⟨rfl, rfl, rfl, by decide +kernel, rfl, by decide +kernel, by decide +kernel⟩
theorem bn_law_shown (T : Tx P K mg) : Binds K (fdOf K ("_law_shown", none)) ["_law_shape_here", "_law_drawn"] [] := FunD.bindsN T.F_law_shown fun _ _ _ _ _ _ us hl => match us, hl with | [_, _], _ => rfl
theorem ok_law_shown (T : Tx P K mg) : ∀ n : Nat, FnOk P w K mg base CX0 (n + 0 + 1) (He.ga K "_law_shown") (fdOf K ("_law_shown", none)) ["_law_shape_here", "_law_drawn"] (sp_law_shown n K) := by
  intro n
  induction n with
  | zero =>
    refine FunD.ok T.F_law_shown sc_law_shown (fun vs H0 Q E h => ?_) (fun cdv A outer s H0 vs Q E hr h => ?_)
    · obtain ⟨_, _, _, _, _, _, rfl, _⟩ := h
      rfl
    · obtain ⟨F0, v__law_shape_here, a__law_shape_here, v__law_drawn, a__law_drawn, r, rfl, hE, f__law_shape_here, f__law_drawn, hm, hQ⟩ := h
      unfold m_law_shown at hm
      cases hm
  | succ n ih =>
    refine FunD.ok T.F_law_shown sc_law_shown (fun vs H0 Q E h => ?_) (fun cdv A outer s H0 vs Q E hr h => ?_)
    · obtain ⟨_, _, _, _, _, _, rfl, _⟩ := h
      rfl
    · obtain ⟨F0, v__law_shape_here, a__law_shape_here, v__law_drawn, a__law_drawn, r, rfl, hE, f__law_shape_here, f__law_drawn, hm, hQ⟩ := h
      refine ⟨_, PSs.nox ((pss_cons (ps_if (pt_cmpR op_eqI (pe_callB (r := rLenQ K) cr_lenQ (by rfl) T.n_len (by decide +kernel) (pa_cons (pv 0) pa_nil)) pe_int (nomark _)) (pss_one (ps_ret (pe_bmK (K := K) PySem.F.plainAttrs_str PySem.F.slot_str_join PySem.F.type_str_join (mt_joinKK (K := K)) pe_str (pa_cons (pe_ix (r := rIxL K) ix_list (pv 1) (pe_ix (r := rIxL K) ix_list (pv 0) pe_int (fun _ _ => rfl)) (fun _ _ => rfl)) pa_nil)))) pss_nil) (pss_one (ps_ret (pe_op op_catS (pe_op op_catS (pe_op op_catS (pe_op op_catS (pe_op op_catS (pe_op op_catS pe_str (pe_call ih (hr.mono (by omega)) (by rfl) T.g_law_shown T.F_law_shown.kp (bn_law_shown T) .nil pass0 (pa_cons (pe_ix (r := rIxL K) ix_list (pv 0) pe_int (fun _ _ => rfl)) (pa_cons (pv 1) pa_nil)))) pe_str) (pe_ix (r := rIxL K) ix_list (pv 0) pe_int (fun _ _ => rfl))) pe_str) (pe_call ih (hr.mono (by omega)) (by rfl) T.g_law_shown T.F_law_shown.kp (bn_law_shown T) .nil pass0 (pa_cons (pe_ix (r := rIxL K) ix_list (pv 0) pe_int (fun _ _ => rfl)) (pa_cons (pv 1) pa_nil)))) pe_str))))), ?_⟩
      have S : Sx P0 F0 H0 F0 H0 := Sx.refl0 hE
      unfold m_law_shown at hm
      refine rd_seq ?_
      refine rd_ifS ?_
      refine rd_test ?_
      refine rd_op ?_
      refine rd_cb ?_
      refine rd_cons ?_
      refine rd_v rfl ?_
      refine rd_nil ?_
      refine rd_lenSh S f__law_shape_here ?_
      refine rd_c ?_
      refine rd_I0 ?_
      refine rd_b ?_
      refine if_b hm (fun b1 hm => ?_) (fun b1 hm => ?_)
      · skip
        obtain ⟨t2, e3, hm⟩ := bd_some hm
        obtain ⟨t4, e5, hm⟩ := bd_some hm
        refine rd_ret ?_
        refine rd_bm ?_
        refine rd_c ?_
        refine rd_ty (tyS_str) ?_
        refine rd_cons ?_
        refine rd_op ?_
        refine rd_v rfl ?_
        refine rd_op ?_
        refine rd_v rfl ?_
        refine rd_c ?_
        refine rd_shN S f__law_shape_here e3 ?_
        refine rd_ixL (S.l f__law_drawn).r e5 (fun u6 f7 => ?_)
        obtain ⟨g8, hm⟩ := gd_some hm
        cases hm
        refine rd_nil ?_
        refine rd_join (S.l f7).r.q g8 ?_
        exact hQ _ _ _ S rfl
      · skip
        obtain ⟨t9, e10, hm⟩ := bd_some hm
        refine rd_next ?_
        refine rd_ret ?_
        refine rd_op ?_
        refine rd_op ?_
        refine rd_op ?_
        refine rd_op ?_
        refine rd_op ?_
        refine rd_op ?_
        refine rd_c ?_
        refine rd_call ?_
        refine rd_cons ?_
        refine rd_op ?_
        refine rd_v rfl ?_
        refine rd_c ?_
        refine rd_shL S f__law_shape_here e10 (fun u11 f12 => ?_)
        obtain ⟨t13, e14, hm⟩ := bd_some hm
        refine rd_cons ?_
        refine rd_v rfl ?_
        refine rd_nil ?_
        refine ⟨F0, _, _, _, _, t13, rfl, S.sub, f12, f__law_drawn, e14, fun v18 F15 H16 c17 f19 => ?_⟩
        have S20 := S.call0 c17
        have f__law_shape_here := qSh.mono c17.le f__law_shape_here
        have f__law_drawn := (qL (qL qS)).mono c17.le f__law_drawn
        cases (show v18 = (V.str (t13)) from f19)
        obtain ⟨g21, hm⟩ := gd_some hm
        obtain ⟨g22, hm⟩ := gd_some hm
        obtain ⟨t23, e24, hm⟩ := bd_some hm
        obtain ⟨g25, hm⟩ := gd_some hm
        obtain ⟨g26, hm⟩ := gd_some hm
        obtain ⟨t27, e28, hm⟩ := bd_some hm
        refine rd_catS g21 ?_
        refine rd_c ?_
        refine rd_catS g22 ?_
        refine rd_op ?_
        refine rd_v rfl ?_
        refine rd_c ?_
        refine rd_shO S20 f__law_shape_here e24 ?_
        refine rd_catS g25 ?_
        refine rd_c ?_
        refine rd_catS g26 ?_
        refine rd_call ?_
        refine rd_cons ?_
        refine rd_op ?_
        refine rd_v rfl ?_
        refine rd_c ?_
        refine rd_shR S20 f__law_shape_here e28 (fun u29 f30 => ?_)
        obtain ⟨t31, e32, hm⟩ := bd_some hm
        refine rd_cons ?_
        refine rd_v rfl ?_
        refine rd_nil ?_
        refine ⟨F15, _, _, _, _, t31, rfl, S20.sub, f30, f__law_drawn, e32, fun v36 F33 H34 c35 f37 => ?_⟩
        have S38 := S20.call0 c35
        have f__law_shape_here := qSh.mono c35.le f__law_shape_here
        have f__law_drawn := (qL (qL qS)).mono c35.le f__law_drawn
        cases (show v36 = (V.str (t31)) from f37)
        obtain ⟨g39, hm⟩ := gd_some hm
        obtain ⟨g40, hm⟩ := gd_some hm
        cases hm
        refine rd_catS g39 ?_
        refine rd_c ?_
        refine rd_catS g40 ?_
        exact hQ _ _ _ S38 rfl
def sp_law_take (K : PySem.W.Frag) : Sp := fun vs H Q _ => ∃ (F : Hp) (p__law_pool_here : Addr) (a__law_pool_here : Int × Int) (a__law_many : Int) (r : (Int × (Int × Int))), vs = [.ref p__law_pool_here, (V.int (a__law_many))] ∧ Same F H ∧ Ow (fun a => a = p__law_pool_here) H F H p__law_pool_here (.lst [.int a__law_pool_here.1, .int a__law_pool_here.2]) ∧ m_law_take a__law_pool_here a__law_many = some r ∧ ∀ v F' H', Sx (fun a => a = p__law_pool_here) F H F' H' → Ow (fun a => a = p__law_pool_here) H F' H' p__law_pool_here (.lst [.int r.2.1, .int r.2.2]) → qI.r K F' v r.1 → Q v H'
theorem sc_law_take : FnScope ["_law_pool_here", "_law_many", "_law_digit"] ["_law_pool_here", "_law_many"] (defScope s_law_take) := ⟨rfl, rfl, rfl, by decide +kernel, rfl, by decide +kernel, by decide +kernel⟩
theorem bn_law_take (T : Tx P K mg) : Binds K (fdOf K ("_law_take", none)) ["_law_pool_here", "_law_many"] [] := FunD.bindsN T.F_law_take fun _ _ _ _ _ _ us hl => match us, hl with | [_, _], _ => rfl
theorem ok_law_take (T : Tx P K mg) : FnOk P w K mg base CX0 1 (He.ga K "_law_take") (fdOf K ("_law_take", none)) ["_law_pool_here", "_law_many"] (sp_law_take K) := by
  refine FunD.ok T.F_law_take sc_law_take (fun vs H0 Q E h => ?_) (fun cdv A outer s H0 vs Q E hr h => ?_)
  · obtain ⟨_, _, _, _, _, rfl, _⟩ := h
    rfl
  · obtain ⟨F0, p__law_pool_here, a__law_pool_here, a__law_many, r, rfl, hE, w__law_pool_here, hm, hQ⟩ := h
    refine ⟨_, PSs.nox ((pss_cons (ps_if (pt_cmpR op_gt (pe_ix (r := rIxL K) ix_list (pv 0) pe_int (fun _ _ => rfl)) pe_int (nomark _)) (pss_cons (ps_set (i := 2) sc_law_take.nd rfl (dk rfl) (pe_op op_mod (pe_callTy cr_int (by rfl) T.n_int (by decide +kernel) (pa_cons (pe_ix (r := rIxL K) ix_list (pv 0) pe_int (fun _ _ => rfl)) pa_nil)) (pv 1))) (pss_cons (ps_asg (pe_op op_fdiv (pe_ix (r := rIxL K) ix_list (pv 0) pe_int (fun _ _ => rfl)) (pv 1)) (pg_sub (pv 0) pe_int set_list)) (pss_one (ps_ret (pv 2))))) pss_nil) (pss_cons (ps_asg (pe_op op_mod (pe_callTy cr_int (by rfl) T.n_int (by decide +kernel) (pa_cons (pe_op op_add (pe_op op_mul (pe_ix (r := rIxL K) ix_list (pv 0) pe_int (fun _ _ => rfl)) pe_int) pe_int) pa_nil)) pe_int) (pg_sub (pv 0) pe_int set_list)) (pss_one (ps_ret (pe_op op_mod (pe_callTy cr_int (by rfl) T.n_int (by decide +kernel) (pa_cons (pe_op op_fdiv (pe_op op_mod (pe_callTy cr_int (by rfl) T.n_int (by decide +kernel) (pa_cons (pe_op op_mul (pe_ix (r := rIxL K) ix_list (pv 0) pe_int (fun _ _ => rfl)) (pe_ix (r := rIxL K) ix_list (pv 0) pe_int (fun _ _ => rfl))) pa_nil)) pe_int) pe_int) pa_nil)) (pv 1))))))), ?_⟩
    have S : Sx (fun a => a = p__law_pool_here) F0 H0 F0 H0 := Sx.refl hE (live1 w__law_pool_here)
    unfold m_law_take at hm
    refine rd_seq ?_
    refine rd_ifS ?_
    refine rd_test ?_
    refine rd_op ?_
    refine rd_op ?_
    refine rd_v rfl ?_
    refine rd_c ?_
    refine pool0 w__law_pool_here ?_
    refine rd_c ?_
    refine rd_I0 ?_
    refine rd_b ?_
    refine if_b hm (fun b1 hm => ?_) (fun b1 hm => ?_)
    · skip
      obtain ⟨g2, hm⟩ := gd_some hm
      obtain ⟨g3, hm⟩ := gd_some hm
      refine rd_seq ?_
      refine rd_asg ?_
      refine rd_op ?_
      refine rd_cb ?_
      refine rd_cons ?_
      refine rd_op ?_
      refine rd_v rfl ?_
      refine rd_c ?_
      refine pool0 w__law_pool_here ?_
      refine rd_nil ?_
      refine rd_intI ?_
      refine rd_v rfl ?_
      refine rd_I (modOk_of g2) ?_
      refine rd_gn ?_
      refine rd_seq ?_
      refine rd_asg ?_
      refine rd_op ?_
      refine rd_op ?_
      refine rd_v rfl ?_
      refine rd_c ?_
      refine pool0 w__law_pool_here ?_
      refine rd_v rfl ?_
      refine rd_I (divOk_of g3) ?_
      refine rd_gsub ?_
      refine rd_v rfl ?_
      refine rd_c ?_
      refine pset0 S w__law_pool_here (fun H4 c5 w6 => ?_)
      have S7 := S.call1 c5 w__law_pool_here
      cases hm
      refine rd_ret ?_
      refine rd_v rfl ?_
      exact hQ _ _ _ S7 w6 rfl
    · skip
      obtain ⟨g8, hm⟩ := gd_some hm
      obtain ⟨g9, hm⟩ := gd_some hm
      refine rd_next ?_
      refine rd_seq ?_
      refine rd_asg ?_
      refine rd_op ?_
      refine rd_cb ?_
      refine rd_cons ?_
      refine rd_op ?_
      refine rd_op ?_
      refine rd_op ?_
      refine rd_v rfl ?_
      refine rd_c ?_
      refine pool1 w__law_pool_here ?_
      refine rd_c ?_
      refine rd_I (mulOk_of g8) ?_
      refine rd_c ?_
      refine rd_I0 ?_
      refine rd_nil ?_
      refine rd_intI ?_
      refine rd_c ?_
      refine rd_I (modOk_of g9) ?_
      refine rd_gsub ?_
      refine rd_v rfl ?_
      refine rd_c ?_
      refine pset1 S w__law_pool_here (fun H10 c11 w12 => ?_)
      have S13 := S.call1 c11 w__law_pool_here
      obtain ⟨g14, hm⟩ := gd_some hm
      obtain ⟨g15, hm⟩ := gd_some hm
      obtain ⟨g16, hm⟩ := gd_some hm
      obtain ⟨g17, hm⟩ := gd_some hm
      cases hm
      refine rd_ret ?_
      refine rd_op ?_
      refine rd_cb ?_
      refine rd_cons ?_
      refine rd_op ?_
      refine rd_op ?_
      refine rd_cb ?_
      refine rd_cons ?_
      refine rd_op ?_
      refine rd_op ?_
      refine rd_v rfl ?_
      refine rd_c ?_
      refine pool1 w12 ?_
      refine rd_op ?_
      refine rd_v rfl ?_
      refine rd_c ?_
      refine pool1 w12 ?_
      refine rd_I (mulOk_of g14) ?_
      refine rd_nil ?_
      refine rd_intI ?_
      refine rd_c ?_
      refine rd_I (modOk_of g15) ?_
      refine rd_c ?_
      refine rd_I (divOk_of g16) ?_
      refine rd_nil ?_
      refine rd_intI ?_
      refine rd_v rfl ?_
      refine rd_I (modOk_of g17) ?_
      exact hQ _ _ _ S13 w12 rfl
def sp_law_sign (K : PySem.W.Frag) : Sp := fun vs H Q _ => ∃ (F : Hp) (p__law_pool_here : Addr) (a__law_pool_here : Int × Int) (r : (Str × (Int × Int))), vs = [.ref p__law_pool_here] ∧ Same F H ∧ Ow (fun a => a = p__law_pool_here) H F H p__law_pool_here (.lst [.int a__law_pool_here.1, .int a__law_pool_here.2]) ∧ m_law_sign a__law_pool_here = some r ∧ ∀ v F' H', Sx (fun a => a = p__law_pool_here) F H F' H' → Ow (fun a => a = p__law_pool_here) H F' H' p__law_pool_here (.lst [.int r.2.1, .int r.2.2]) → qS.r K F' v r.1 → Q v H'
theorem sc_law_sign : FnScope ["_law_pool_here", "_law_some"] ["_law_pool_here"] (defScope s_law_sign) := ⟨rfl, rfl, rfl, by decide +kernel, rfl, by decide +kernel, by decide +kernel⟩
theorem bn_law_sign (T : Tx P K mg) : Binds K (fdOf K ("_law_sign", none)) ["_law_pool_here"] [] := FunD.bindsN T.F_law_sign fun _ _ _ _ _ _ us hl => match us, hl with | [_], _ => rfl
theorem ok_law_sign (T : Tx P K mg) : FnOk P w K mg base CX0 2 (He.ga K "_law_sign") (fdOf K ("_law_sign", none)) ["_law_pool_here"] (sp_law_sign K) := by
  refine FunD.ok T.F_law_sign sc_law_sign (fun vs H0 Q E h => ?_) (fun cdv A outer s H0 vs Q E hr h => ?_)
  · obtain ⟨_, _, _, _, rfl, _⟩ := h
    rfl
  · obtain ⟨F0, p__law_pool_here, a__law_pool_here, r, rfl, hE, w__law_pool_here, hm, hQ⟩ := h
    refine ⟨_, PSs.nox ((pss_cons (ps_set (i := 1) sc_law_sign.nd rfl (dk rfl) pe_str) (pss_cons (ps_set (i := 1) sc_law_sign.nd rfl (dk rfl) (pe_op op_catS (pv 1) pe_str)) (pss_cons (ps_if (pt_cmpR op_eqI (pe_call (ok_law_take T) (hr.mono (by decide)) (by rfl) T.g_law_take T.F_law_take.kp (bn_law_take T) .nil pass0 (pa_cons (pv 0) (pa_cons pe_int pa_nil))) pe_int (nomark _)) (pss_one (ps_ret (pe_ix ix_str pe_str (pe_call (ok_law_take T) (hr.mono (by decide)) (by rfl) T.g_law_take T.F_law_take.kp (bn_law_take T) .nil pass0 (pa_cons (pv 0) (pa_cons pe_int pa_nil))) (fun _ _ => rfl)))) pss_nil) (pss_one (ps_ret (pe_ix ix_str (pv 1) (pe_call (ok_law_take T) (hr.mono (by decide)) (by rfl) T.g_law_take T.F_law_take.kp (bn_law_take T) .nil pass0 (pa_cons (pv 0) (pa_cons pe_int pa_nil))) (fun _ _ => rfl)))))))), ?_⟩
    have S : Sx (fun a => a = p__law_pool_here) F0 H0 F0 H0 := Sx.refl hE (live1 w__law_pool_here)
    unfold m_law_sign at hm
    obtain ⟨g1, hm⟩ := gd_some hm
    obtain ⟨t2, e3, hm⟩ := bd_some hm
    refine rd_seq ?_
    refine rd_asg ?_
    refine rd_c ?_
    refine rd_gn ?_
    refine rd_seq ?_
    refine rd_asg ?_
    refine rd_op ?_
    refine rd_v rfl ?_
    refine rd_c ?_
    refine rd_catS g1 ?_
    refine rd_gn ?_
    refine rd_seq ?_
    refine rd_ifS ?_
    refine rd_test ?_
    refine rd_op ?_
    refine rd_call ?_
    refine rd_cons ?_
    refine rd_v rfl ?_
    refine rd_cons ?_
    refine rd_c ?_
    refine rd_nil ?_
    refine ⟨F0, _, _, _, t2, rfl, S.sub, w__law_pool_here.arg, e3, fun v7 F4 H5 c6 w9 f8 => ?_⟩
    have S10 := S.call1 c6 w__law_pool_here
    have w11 := w__law_pool_here.back w9
    cases (show v7 = (V.int (t2.1)) from f8)
    refine rd_c ?_
    refine rd_I0 ?_
    refine rd_b ?_
    refine if_b hm (fun b12 hm => ?_) (fun b12 hm => ?_)
    · skip
      obtain ⟨t13, e14, hm⟩ := bd_some hm
      refine rd_ret ?_
      refine rd_op ?_
      refine rd_c ?_
      refine rd_call ?_
      refine rd_cons ?_
      refine rd_v rfl ?_
      refine rd_cons ?_
      refine rd_c ?_
      refine rd_nil ?_
      refine ⟨F4, _, _, _, t13, rfl, S10.sub, w11.arg, e14, fun v18 F15 H16 c17 w20 f19 => ?_⟩
      have S21 := S10.call1 c17 w11
      have w22 := w11.back w20
      cases (show v18 = (V.int (t13.1)) from f19)
      obtain ⟨t23, e24, hm⟩ := bd_some hm
      cases hm
      refine rd_ixS e24 ?_
      exact hQ _ _ _ S21 w22 rfl
    · skip
      obtain ⟨t25, e26, hm⟩ := bd_some hm
      refine rd_next ?_
      refine rd_ret ?_
      refine rd_op ?_
      refine rd_v rfl ?_
      refine rd_call ?_
      refine rd_cons ?_
      refine rd_v rfl ?_
      refine rd_cons ?_
      refine rd_c ?_
      refine rd_nil ?_
      refine ⟨F4, _, _, _, t25, rfl, S10.sub, w11.arg, e26, fun v30 F27 H28 c29 w32 f31 => ?_⟩
      have S33 := S10.call1 c29 w11
      have w34 := w11.back w32
      cases (show v30 = (V.int (t25.1)) from f31)
      obtain ⟨t35, e36, hm⟩ := bd_some hm
      cases hm
      refine rd_ixS e36 ?_
      exact hQ _ _ _ S33 w34 rfl
def sp_law_bent (K : PySem.W.Frag) : Sp := fun vs H Q _ => ∃ (F : Hp) (p__law_pool_here : Addr) (a__law_pool_here : Int × Int) (a__law_text_here : Str) (r : (Str × (Int × Int))), vs = [.ref p__law_pool_here, (V.str (a__law_text_here))] ∧ Same F H ∧ Ow (fun a => a = p__law_pool_here) H F H p__law_pool_here (.lst [.int a__law_pool_here.1, .int a__law_pool_here.2]) ∧ m_law_bent a__law_pool_here a__law_text_here = some r ∧ ∀ v F' H', Sx (fun a => a = p__law_pool_here) F H F' H' → Ow (fun a => a = p__law_pool_here) H F' H' p__law_pool_here (.lst [.int r.2.1, .int r.2.2]) → qS.r K F' v r.1 → Q v H'
theorem sc_law_bent : FnScope ["_law_pool_here", "_law_text_here", "_law_at", "_law_way"] ["_law_pool_here", "_law_text_here"] (defScope s_law_bent) := ⟨rfl, rfl, rfl, by decide +kernel, rfl, by decide +kernel, by decide +kernel⟩
theorem bn_law_bent (T : Tx P K mg) : Binds K (fdOf K ("_law_bent", none)) ["_law_pool_here", "_law_text_here"] [] := FunD.bindsN T.F_law_bent fun _ _ _ _ _ _ us hl => match us, hl with | [_, _], _ => rfl
theorem ok_law_bent (T : Tx P K mg) : FnOk P w K mg base CX0 3 (He.ga K "_law_bent") (fdOf K ("_law_bent", none)) ["_law_pool_here", "_law_text_here"] (sp_law_bent K) := by
  refine FunD.ok T.F_law_bent sc_law_bent (fun vs H0 Q E h => ?_) (fun cdv A outer s H0 vs Q E hr h => ?_)
  · obtain ⟨_, _, _, _, _, rfl, _⟩ := h
    rfl
  · obtain ⟨F0, p__law_pool_here, a__law_pool_here, a__law_text_here, r, rfl, hE, w__law_pool_here, hm, hQ⟩ := h
    refine ⟨_, PSs.nox ((pss_cons (ps_set (i := 2) sc_law_bent.nd rfl (dk rfl) (pe_call (ok_law_take T) (hr.mono (by decide)) (by rfl) T.g_law_take T.F_law_take.kp (bn_law_take T) .nil pass0 (pa_cons (pv 0) (pa_cons (pe_op op_add (pe_callB cr_lenS (by rfl) T.n_len (by decide +kernel) (pa_cons (pv 1) pa_nil)) pe_int) pa_nil)))) (pss_cons (ps_set (i := 3) sc_law_bent.nd rfl (dk rfl) (pe_call (ok_law_take T) (hr.mono (by decide)) (by rfl) T.g_law_take T.F_law_take.kp (bn_law_take T) .nil pass0 (pa_cons (pv 0) (pa_cons pe_int pa_nil)))) (pss_cons (ps_if (pt_cmpR op_eqI (pv 3) pe_int (nomark _)) (pss_one (ps_ret (pe_op op_catS (pe_op op_catS (pe_slice sl_str (pv 1) po_none (po_some (pv 2))) (pe_call (ok_law_sign T) (hr.mono (by decide)) (by rfl) T.g_law_sign T.F_law_sign.kp (bn_law_sign T) .nil pass0 (pa_cons (pv 0) pa_nil))) (pe_slice sl_str (pv 1) (po_some (pv 2)) po_none)))) pss_nil) (pss_cons (ps_if (pt_cmpR op_eqI (pv 3) pe_int (nomark _)) (pss_one (ps_ret (pe_op op_catS (pe_slice sl_str (pv 1) po_none (po_some (pv 2))) (pe_slice sl_str (pv 1) (po_some (pe_op op_add (pv 2) pe_int)) po_none)))) pss_nil) (pss_one (ps_ret (pe_op op_catS (pe_op op_catS (pe_slice sl_str (pv 1) po_none (po_some (pv 2))) (pe_call (ok_law_sign T) (hr.mono (by decide)) (by rfl) T.g_law_sign T.F_law_sign.kp (bn_law_sign T) .nil pass0 (pa_cons (pv 0) pa_nil))) (pe_slice sl_str (pv 1) (po_some (pe_op op_add (pv 2) pe_int)) po_none))))))))), ?_⟩
    have S : Sx (fun a => a = p__law_pool_here) F0 H0 F0 H0 := Sx.refl hE (live1 w__law_pool_here)
    unfold m_law_bent at hm
    obtain ⟨g1, hm⟩ := gd_some hm
    obtain ⟨t2, e3, hm⟩ := bd_some hm
    refine rd_seq ?_
    refine rd_asg ?_
    refine rd_call ?_
    refine rd_cons ?_
    refine rd_v rfl ?_
    refine rd_cons ?_
    refine rd_op ?_
    refine rd_cb ?_
    refine rd_cons ?_
    refine rd_v rfl ?_
    refine rd_nil ?_
    refine rd_lenS g1 ?_
    refine rd_c ?_
    refine rd_I0 ?_
    refine rd_nil ?_
    refine ⟨F0, _, _, _, t2, rfl, S.sub, w__law_pool_here.arg, e3, fun v7 F4 H5 c6 w9 f8 => ?_⟩
    have S10 := S.call1 c6 w__law_pool_here
    have w11 := w__law_pool_here.back w9
    cases (show v7 = (V.int (t2.1)) from f8)
    obtain ⟨t12, e13, hm⟩ := bd_some hm
    refine rd_gn ?_
    refine rd_seq ?_
    refine rd_asg ?_
    refine rd_call ?_
    refine rd_cons ?_
    refine rd_v rfl ?_
    refine rd_cons ?_
    refine rd_c ?_
    refine rd_nil ?_
    refine ⟨F4, _, _, _, t12, rfl, S10.sub, w11.arg, e13, fun v17 F14 H15 c16 w19 f18 => ?_⟩
    have S20 := S10.call1 c16 w11
    have w21 := w11.back w19
    cases (show v17 = (V.int (t12.1)) from f18)
    refine rd_gn ?_
    refine rd_seq ?_
    refine rd_ifS ?_
    refine rd_test ?_
    refine rd_op ?_
    refine rd_v rfl ?_
    refine rd_c ?_
    refine rd_I0 ?_
    refine rd_b ?_
    refine if_b hm (fun b22 hm => ?_) (fun b22 hm => ?_)
    · skip
      obtain ⟨g23, hm⟩ := gd_some hm
      obtain ⟨t24, e25, hm⟩ := bd_some hm
      refine rd_ret ?_
      refine rd_op ?_
      refine rd_op ?_
      refine rd_sl ?_
      refine rd_v rfl ?_
      refine rd_np ?_
      refine rd_pt ?_
      refine rd_v rfl ?_
      refine rd_i ?_
      refine rd_slS g23 ?_
      refine rd_call ?_
      refine rd_cons ?_
      refine rd_v rfl ?_
      refine rd_nil ?_
      refine ⟨F14, _, _, t24, rfl, S20.sub, w21.arg, e25, fun v29 F26 H27 c28 w31 f30 => ?_⟩
      have S32 := S20.call1 c28 w21
      have w33 := w21.back w31
      cases (show v29 = (V.str (t24.1)) from f30)
      obtain ⟨g34, hm⟩ := gd_some hm
      obtain ⟨g35, hm⟩ := gd_some hm
      obtain ⟨g36, hm⟩ := gd_some hm
      cases hm
      refine rd_catS g34 ?_
      refine rd_sl ?_
      refine rd_v rfl ?_
      refine rd_pt ?_
      refine rd_v rfl ?_
      refine rd_i ?_
      refine rd_np ?_
      refine rd_slS g35 ?_
      refine rd_catS g36 ?_
      exact hQ _ _ _ S32 w33 rfl
    · skip
      refine rd_next ?_
      refine rd_seq ?_
      refine rd_ifS ?_
      refine rd_test ?_
      refine rd_op ?_
      refine rd_v rfl ?_
      refine rd_c ?_
      refine rd_I0 ?_
      refine rd_b ?_
      refine if_b hm (fun b37 hm => ?_) (fun b37 hm => ?_)
      · skip
        obtain ⟨g38, hm⟩ := gd_some hm
        obtain ⟨g39, hm⟩ := gd_some hm
        obtain ⟨g40, hm⟩ := gd_some hm
        cases hm
        refine rd_ret ?_
        refine rd_op ?_
        refine rd_sl ?_
        refine rd_v rfl ?_
        refine rd_np ?_
        refine rd_pt ?_
        refine rd_v rfl ?_
        refine rd_i ?_
        refine rd_slS g38 ?_
        refine rd_sl ?_
        refine rd_v rfl ?_
        refine rd_pt ?_
        refine rd_op ?_
        refine rd_v rfl ?_
        refine rd_c ?_
        refine rd_I0 ?_
        refine rd_i ?_
        refine rd_np ?_
        refine rd_slS g39 ?_
        refine rd_catS g40 ?_
        exact hQ _ _ _ S20 w21 rfl
      · skip
        obtain ⟨g41, hm⟩ := gd_some hm
        obtain ⟨t42, e43, hm⟩ := bd_some hm
        refine rd_next ?_
        refine rd_ret ?_
        refine rd_op ?_
        refine rd_op ?_
        refine rd_sl ?_
        refine rd_v rfl ?_
        refine rd_np ?_
        refine rd_pt ?_
        refine rd_v rfl ?_
        refine rd_i ?_
        refine rd_slS g41 ?_
        refine rd_call ?_
        refine rd_cons ?_
        refine rd_v rfl ?_
        refine rd_nil ?_
        refine ⟨F14, _, _, t42, rfl, S20.sub, w21.arg, e43, fun v47 F44 H45 c46 w49 f48 => ?_⟩
        have S50 := S20.call1 c46 w21
        have w51 := w21.back w49
        cases (show v47 = (V.str (t42.1)) from f48)
        obtain ⟨g52, hm⟩ := gd_some hm
        obtain ⟨g53, hm⟩ := gd_some hm
        obtain ⟨g54, hm⟩ := gd_some hm
        cases hm
        refine rd_catS g52 ?_
        refine rd_sl ?_
        refine rd_v rfl ?_
        refine rd_pt ?_
        refine rd_op ?_
        refine rd_v rfl ?_
        refine rd_c ?_
        refine rd_I0 ?_
        refine rd_i ?_
        refine rd_np ?_
        refine rd_slS g53 ?_
        refine rd_catS g54 ?_
        exact hQ _ _ _ S50 w51 rfl
def sp_middle_of (K : PySem.W.Frag) : Sp := fun vs H Q _ => ∃ (F : Hp) (a_text : Str) (r : (Option Int)), vs = [(V.str (a_text))] ∧ Same F H ∧ m_middle_of a_text = some r ∧ ∀ v F' H', Sx P0 F H F' H' → (qO qI).r K F' v r → Q v H'
theorem sc_middle_of : FnScope ["text", "depth", "found", "at", "sign"] ["text"] (defScope s_middle_of) := ⟨rfl, rfl, rfl, by decide +kernel, rfl, by decide +kernel, by decide +kernel⟩
theorem bn_middle_of (T : Tx P K mg) : Binds K (fdOf K ("middle_of", none)) ["text"] [] := FunD.bindsN T.F_middle_of fun _ _ _ _ _ _ us hl => match us, hl with | [_], _ => rfl
theorem ok_middle_of (T : Tx P K mg) : FnOk P w K mg base CX0 1 (He.ga K "middle_of") (fdOf K ("middle_of", none)) ["text"] (sp_middle_of K) := by
  refine FunD.ok T.F_middle_of sc_middle_of (fun vs H0 Q E h => ?_) (fun cdv A outer s H0 vs Q E hr h => ?_)
  · obtain ⟨_, _, _, rfl, _⟩ := h
    rfl
  · obtain ⟨F0, a_text, r, rfl, hE, hm, hQ⟩ := h
    refine ⟨_, PSs.nox ((pss_cons (ps_set (i := 1) sc_middle_of.nd rfl (dk rfl) pe_int) (pss_cons (ps_set (i := 2) sc_middle_of.nd rfl (dk rfl) (pe_lst pa_nil)) (pss_cons (ps_for PassesOwn.never rfl (pi_enumS (by rfl) T.n_enumerate (pa_cons (pv 0) pa_nil)) (pg_tupK (n := 2) rfl (pgs_cons (pg_name (i := 3) sc_middle_of.nd rfl (dk rfl)) (pgs_cons (pg_name (i := 4) sc_middle_of.nd rfl (dk rfl)) pgs_nil))) (pss_one (ps_if (pt_cmpR op_eqS (pv 4) pe_str (nomark _)) (pss_one (ps_aug (i := 1) sc_middle_of.nd rfl (dk rfl) pe_int ip_add)) (pss_one (ps_if (pt_cmpR op_eqS (pv 4) pe_str (nomark _)) (pss_one (ps_aug (i := 1) sc_middle_of.nd rfl (dk rfl) pe_int ip_sub)) (pss_one (ps_if (PW.pt (pw_and (pt_cmpR op_inS (pv 4) pe_str rfl) (pw_and1 (pt_cmpR op_eqI (pv 1) pe_int (nomark _))))) (pss_one (ps_expr (pe_bmK (K := K) PySem.F.plainAttrs_list PySem.F.slot_list_append PySem.F.type_list_append mt_append (pv 2) (pa_cons (pv 3) pa_nil)))) pss_nil))))))) (pss_one (ps_ret (pe_ifExp (pt_cmpR op_eqI (pe_callB (r := rLenQ K) cr_lenQ (by rfl) T.n_len (by decide +kernel) (pa_cons (pv 2) pa_nil)) pe_int (nomark _)) (pe_ix (r := rIxL K) ix_list (pv 2) pe_int (fun _ _ => rfl)) pe_non))))))), ?_⟩
    have S : Sx P0 F0 H0 F0 H0 := Sx.refl0 hE
    unfold m_middle_of at hm
    refine rd_seq ?_
    refine rd_asg ?_
    refine rd_c ?_
    refine rd_gn ?_
    refine rd_seq ?_
    refine rd_asg ?_
    refine rd_lst ?_
    refine rd_nil ?_
    refine rd_lK rfl ?_
    refine al S (fun p1 H2 np3 c4 w5 => ?_)
    have r6 : Row qI K F0 [] ([] : List Int) := .nil
    have z7 := S.free0 np3
    have S8 := S.call0 c4
    refine rd_gn ?_
    refine rd_seq ?_
    refine rd_for ?_
    refine rd_iES ?_
    refine rd_cons ?_
    refine rd_v rfl ?_
    refine rd_nil ?_
    refine rd_wES ?_
    obtain ⟨t9, e10, hm⟩ := bd_some hm
    refine rd_forS2 feedsES (typedES (K := K) (F := F0)) e10 (fun (s11 : ((List Int) × Int)) σ H => ∃ (F : Hp) (o3 : Option V) (o4 : Option V) (vs0 : List V), σ = [some (V.str (a_text)), some (V.int (s11.2)), some (V.ref p1), o3, o4] ∧ Sx (fun a => a = p1) F0 H2 F H ∧ Ow (fun a => a = p1) H2 F H p1 (.lst vs0) ∧ Row qI K F vs0 s11.1) ?_ ?_ ?_ ?_
    · intro _ _ _ _; trivial
    · skip
      have S13 : Sx (fun a => a = p1) _ _ _ _ := Sx.refl S8.sub (fun a z => by rw [z, w5.at_]; exact (fun h => nomatch h))
      have w14 : Ow (fun a => a = p1) H2 _ _ _ _ := ⟨w5.fr, w5.at_, .inr (rfl)⟩
      exact ⟨F0, _, _, _, rfl, S13, w14, r6⟩
    · skip
      rintro x15 u32 w33 s17 c21 σ18 H19 fu34 fw35 ⟨F22, o24, o25, v26, rfl, S23, w27, r28⟩ hm31
      unfold m_middle_of_b1 at hm31
      refine alE (K := K) S23 (fun T36 F37 H38 c39 h40 => ?_)
      have S41 := S23.call0 c39
      have r28 := Row.mono c39.le r28
      have w27 := w27.call0 c39
      cases (show u32 = (V.int (x15.1)) from fu34)
      cases (show w33 = (V.str (x15.2)) from fw35)
      refine rd_gt2 (same_t S41.sub h40) ?_
      refine rd_gc ?_
      refine rd_gn ?_
      refine rd_gc ?_
      refine rd_gn ?_
      refine rd_gl ?_
      refine rd_ifS ?_
      refine rd_test ?_
      refine rd_op ?_
      refine rd_v rfl ?_
      refine rd_c ?_
      refine rd_S0 ?_
      refine rd_b ?_
      refine if_b hm31 (fun b42 hm31 => ?_) (fun b42 hm31 => ?_)
      · skip
        cases hm31
        refine rd_aug rfl ?_
        refine rd_c ?_
        refine rd_ipI ?_
        exact ⟨F37, _, _, _, rfl, S41, w27, r28⟩
      · skip
        refine rd_ifS ?_
        refine rd_test ?_
        refine rd_op ?_
        refine rd_v rfl ?_
        refine rd_c ?_
        refine rd_S0 ?_
        refine rd_b ?_
        refine if_b hm31 (fun b43 hm31 => ?_) (fun b43 hm31 => ?_)
        · skip
          cases hm31
          refine rd_aug rfl ?_
          refine rd_c ?_
          refine rd_ipI ?_
          exact ⟨F37, _, _, _, rfl, S41, w27, r28⟩
        · skip
          refine rd_ifS ?_
          refine rd_and ?_
          refine rd_test ?_
          refine rd_op ?_
          refine rd_v rfl ?_
          refine rd_c ?_
          refine rd_inSS ?_
          refine rd_b ?_
          refine and_p (by intro _ Q' q; refine rd_test ?_; refine rd_op ?_; refine rd_v rfl ?_; refine rd_c ?_; refine rd_I0 ?_; refine rd_b ?_; exact q) ?_
          refine if_b hm31 (fun b44 hm31 => ?_) (fun b44 hm31 => ?_)
          · skip
            obtain ⟨g45, hm31⟩ := gd_some hm31
            refine rd_drop ?_
            refine rd_bm ?_
            refine rd_v rfl ?_
            refine rd_ty w27.ty ?_
            refine rd_cons ?_
            refine rd_v rfl ?_
            refine rd_nil ?_
            refine ap S41 w27 r28 g45 (fun H46 c47 w48 => ?_)
            have r49 := r28.snoc (show qI.r K F37 _ x15.1 from rfl)
            have S50 := S41.call1 c47 w27
            have r49 := Row.mono c47.le r49
            cases hm31
            exact ⟨F37, _, _, _, rfl, S50, w48, r49⟩
          · skip
            cases hm31
            refine rd_next ?_
            exact ⟨F37, _, _, _, rfl, S41, w27, r28⟩
    · skip
      rintro σ51 H52 ⟨F53, o55, o56, v57, rfl, S54, w58, r59⟩
      have S60 := S8.call1 S54 w5
      have w61 : Ow P0 H0 _ _ _ _ := ⟨w58.fr, w58.at_, w5.mine⟩
      obtain ⟨t62, e63, hm⟩ := bd_some hm
      refine rd_ret ?_
      refine rd_ifE ?_
      refine rd_test ?_
      refine rd_op ?_
      refine rd_cb ?_
      refine rd_cons ?_
      refine rd_v rfl ?_
      refine rd_nil ?_
      refine rd_lenQ (w61.l r59).r.q ?_
      refine rd_c ?_
      refine rd_I0 ?_
      refine rd_b ?_
      refine ifE_j (fun c H' => ∃ F', (qO qI).r K F' c t62 ∧ Sx P0 F53 H52 F' H') ?_ ?_ ?_
      · intro b64 Q65 q66
        have hm67 := if_t e63 b64
        have S68 := Sx.refl0 S60.sub
        obtain ⟨t69, e70, hm67⟩ := bd_some hm67
        refine rd_op ?_
        refine rd_v rfl ?_
        refine rd_c ?_
        refine rd_ixL (w61.l r59).r e70 (fun u71 f72 => ?_)
        cases (show u71 = (V.int (t69)) from f72)
        have f73 : (qO qI).r K F53 (V.int (t69)) (some t69) := (show (qO qI).r K F53 (V.int (t69)) (some t69) from rfl)
        cases hm67
        exact q66 _ _ ⟨F53, f73, S68⟩
      · intro b74 Q75 q76
        have hm77 := if_f e63 b74
        have S78 := Sx.refl0 S60.sub
        have f79 : (qO qI).r K F53 V.non none := (show (qO qI).r K F53 V.non none from rfl)
        cases hm77
        refine rd_c ?_
        exact q76 _ _ ⟨F53, f79, S78⟩
      rintro v83 H81 ⟨F80, f84, c82⟩
      have S85 := S60.call0 c82
      have r59 := Row.mono c82.le r59
      have w61 := w61.call0 c82
      cases hm
      exact hQ _ _ _ S85 f84
def sp_Form_forms (K : PySem.W.Frag) : Sp := fun vs H Q _ => ∃ (F : Hp) (v_self : V) (a_self : (List Str)) (r : (List (List Str))), vs = [v_self] ∧ Same F H ∧ qForm.r K F v_self a_self ∧ m_Form_forms a_self = some r ∧ ∀ v F' H', Sx P0 F H F' H' → (qL qForm).r K F' v r → Q v H'
theorem sc_Form_forms : FnScope ["self"] ["self"] (defScope s_Form_forms) := ⟨rfl, rfl, rfl, by decide +kernel, rfl, by decide +kernel, by decide +kernel⟩
theorem bn_Form_forms (T : Tx P K mg) : Binds K (fdOf K ("Form", some "forms")) ["self"] [] := FunD.bindsN T.F_Form_forms fun _ _ _ _ _ _ us hl => match us, hl with | [_], _ => rfl
theorem ok_Form_forms (T : Tx P K mg) : FnOk P w K mg base CX0 1 (He.fAd K ("Form", some "forms")) (fdOf K ("Form", some "forms")) ["self"] (sp_Form_forms K) := by
  refine FunD.ok T.F_Form_forms sc_Form_forms (fun vs H0 Q E h => ?_) (fun cdv A outer s H0 vs Q E hr h => ?_)
  · obtain ⟨_, _, _, _, rfl, _⟩ := h
    rfl
  · obtain ⟨F0, v_self, a_self, r, rfl, hE, f_self, hm, hQ⟩ := h
    refine ⟨_, PSs.nox ((pss_one (ps_ret (pe_lst (pa_cons (pv 0) pa_nil))))), ?_⟩
    have S : Sx P0 F0 H0 F0 H0 := Sx.refl0 hE
    unfold m_Form_forms at hm
    refine rd_ret ?_
    refine rd_lst ?_
    refine rd_cons ?_
    refine rd_v rfl ?_
    refine rd_nil ?_
    refine rd_lK rfl ?_
    refine alL (K := K) (A := qForm) (xs := [a_self]) S (.cons f_self .nil) (fun v1 F2 H3 c4 f5 => ?_)
    have S6 := S.call0 c4
    have f_self := qForm.mono c4.le f_self
    cases hm
    exact hQ _ _ _ S6 f5
theorem okv_Form_forms (T : Tx P K mg) (n : Nat) : FnOk P w K mg base CX0 (n + 1) (He.fAd K ("Form", some "forms")) (fdOf K ("Form", some "forms")) ["self"] (sp_pat_forms n "Form" K) := by
  refine ((ok_Form_forms T).mono (by omega)).imp fun vs H0 Q E h => ?_
  obtain ⟨F0, v, a, r, rfl, hE, f, hc, hm, hQ⟩ := h
  obtain ⟨h1, h2, h3⟩ := patN_some hm
  cases h3
  cases a with
    | both _ _ => exact absurd (show ("Both" : Str) = "Form" from hc) (by decide)
    | either _ _ => exact absurd (show ("Either" : Str) = "Form" from hc) (by decide)
    | form a =>
    exact ⟨F0, v, a, _, rfl, hE, f, rfl, hQ⟩
theorem sc_Both_forms : FnScope ["self"] ["self"] (defScope s_Both_forms) := ⟨rfl, rfl, rfl, by decide +kernel, rfl, by decide +kernel, by decide +kernel⟩
theorem bn_Both_forms (T : Tx P K mg) : Binds K (fdOf K ("Both", some "forms")) ["self"] [] := FunD.bindsN T.F_Both_forms fun _ _ _ _ _ _ us hl => match us, hl with | [_], _ => rfl
theorem okv_Both_forms (T : Tx P K mg) {n : Nat} (V : VM P w K mg base (n + 1) "forms" ["self"] (fun x => sp_pat_forms n x K)) : FnOk P w K mg base CX0 (n + 2) (He.fAd K ("Both", some "forms")) (fdOf K ("Both", some "forms")) ["self"] (sp_pat_forms (n + 1) "Both" K) := by
  refine FunD.ok T.F_Both_forms sc_Both_forms (fun vs H0 Q E h => ?_) (fun cdv A outer s H0 vs Q E hr h => ?_)
  · obtain ⟨_, _, _, _, rfl, _⟩ := h
    rfl
  · obtain ⟨F0, v, a, r, rfl, hE, f, hc, hm, hQ⟩ := h
    obtain ⟨h1, h2, h3⟩ := patN_some hm
    cases h3
    cases a with
    | form _ => exact absurd (show ("Form" : Str) = "Both" from hc) (by decide)
    | either _ _ => exact absurd (show ("Either" : Str) = "Both" from hc) (by decide)
    | both l r' =>
    obtain ⟨p, dx, u, w', rfl, e2, rl, rr⟩ := (show qPatR K F0 v (.both l r') from f)
    replace rl : qPat.r K F0 u l := rl
    replace rr : qPat.r K F0 w' r' := rr
    have hl : l.ht ≤ n ∧ r'.ht ≤ n := by
      have h1 : max l.ht r'.ht + 1 ≤ n + 1 := h1
      omega
    have hf : l.forms.length + r'.forms.length ≤ 16 := by
      have h2 : (l.forms ++ r'.forms).length ≤ 16 := h2
      rw [List.length_append] at h2
      exact h2
    refine ⟨_, PSs.nox (pss_one (ps_ret (pe_op op_cat (pe_methV0 (E := E0) (pe_fldK (pv 0) rfl)) (pe_methV0 (E := E0) (pe_fldK (pv 0) rfl))))), ?_⟩
    have S : Sx P0 F0 H0 F0 H0 := Sx.refl0 hE
    refine rd_ret ?_
    refine rd_op ?_
    refine rd_methV ?_
    refine rd_fld ?_
    refine rd_v rfl ?_
    refine fd_at (S.sub _ _ e2) T.c_Both T.na_Both_left (by rfl) ?_
    refine V.call (hr.mono (by omega)) S rl (kt := ?_)
    refine rd_nil ?_
    refine ⟨F0, _, _, _, rfl, S.sub, rl, rfl, patN_of hl.1 (by omega), fun v1 F1 H1 c1 f1 => ?_⟩
    have S1 := S.call0 c1
    have rr := qPat.mono c1.le rr
    refine rd_methV ?_
    refine rd_fld ?_
    refine rd_v rfl ?_
    refine fd_at (S1.sub _ _ (S1.le _ _ e2)) T.c_Both T.na_Both_right (by rfl) ?_
    refine V.call (hr.mono (by omega)) S1 rr (kt := ?_)
    refine rd_nil ?_
    refine ⟨F1, _, _, _, rfl, S1.sub, rr, rfl, patN_of hl.2 (by omega), fun v2 F2 H2 c2 f2 => ?_⟩
    have S2 := S1.call0 c2
    have f1 := (qL qForm).mono c2.le f1
    refine rd_cat (S2.l f1) (S2.l f2) (decide_eq_true (Nat.le_trans hf (by rw [sizeLine_eq]; decide))) ?_
    refine alL' S2 (fun v3 F3 H3 c3 f3 => ?_)
    exact hQ _ _ _ (S2.call0 c3) f3
theorem sc_Either_forms : FnScope ["self"] ["self"] (defScope s_Either_forms) := ⟨rfl, rfl, rfl, by decide +kernel, rfl, by decide +kernel, by decide +kernel⟩
theorem bn_Either_forms (T : Tx P K mg) : Binds K (fdOf K ("Either", some "forms")) ["self"] [] := FunD.bindsN T.F_Either_forms fun _ _ _ _ _ _ us hl => match us, hl with | [_], _ => rfl
theorem okv_Either_forms (T : Tx P K mg) {n : Nat} (V : VM P w K mg base (n + 1) "forms" ["self"] (fun x => sp_pat_forms n x K)) : FnOk P w K mg base CX0 (n + 2) (He.fAd K ("Either", some "forms")) (fdOf K ("Either", some "forms")) ["self"] (sp_pat_forms (n + 1) "Either" K) := by
  refine FunD.ok T.F_Either_forms sc_Either_forms (fun vs H0 Q E h => ?_) (fun cdv A outer s H0 vs Q E hr h => ?_)
  · obtain ⟨_, _, _, _, rfl, _⟩ := h
    rfl
  · obtain ⟨F0, v, a, r, rfl, hE, f, hc, hm, hQ⟩ := h
    obtain ⟨h1, h2, h3⟩ := patN_some hm
    cases h3
    cases a with
    | form _ => exact absurd (show ("Form" : Str) = "Either" from hc) (by decide)
    | both _ _ => exact absurd (show ("Both" : Str) = "Either" from hc) (by decide)
    | either l r' =>
    obtain ⟨p, dx, u, w', rfl, e2, rl, rr⟩ := (show qPatR K F0 v (.either l r') from f)
    replace rl : qPat.r K F0 u l := rl
    replace rr : qPat.r K F0 w' r' := rr
    have hl : l.ht ≤ n ∧ r'.ht ≤ n := by
      have h1 : max l.ht r'.ht + 1 ≤ n + 1 := h1
      omega
    have hf : l.forms.length + r'.forms.length ≤ 16 := by
      have h2 : (l.forms ++ r'.forms).length ≤ 16 := h2
      rw [List.length_append] at h2
      exact h2
    refine ⟨_, PSs.nox (pss_one (ps_ret (pe_op op_cat (pe_methV0 (E := E0) (pe_fldK (pv 0) rfl)) (pe_methV0 (E := E0) (pe_fldK (pv 0) rfl))))), ?_⟩
    have S : Sx P0 F0 H0 F0 H0 := Sx.refl0 hE
    refine rd_ret ?_
    refine rd_op ?_
    refine rd_methV ?_
    refine rd_fld ?_
    refine rd_v rfl ?_
    refine fd_at (S.sub _ _ e2) T.c_Either T.na_Either_left (by rfl) ?_
    refine V.call (hr.mono (by omega)) S rl (kt := ?_)
    refine rd_nil ?_
    refine ⟨F0, _, _, _, rfl, S.sub, rl, rfl, patN_of hl.1 (by omega), fun v1 F1 H1 c1 f1 => ?_⟩
    have S1 := S.call0 c1
    have rr := qPat.mono c1.le rr
    refine rd_methV ?_
    refine rd_fld ?_
    refine rd_v rfl ?_
    refine fd_at (S1.sub _ _ (S1.le _ _ e2)) T.c_Either T.na_Either_right (by rfl) ?_
    refine V.call (hr.mono (by omega)) S1 rr (kt := ?_)
    refine rd_nil ?_
    refine ⟨F1, _, _, _, rfl, S1.sub, rr, rfl, patN_of hl.2 (by omega), fun v2 F2 H2 c2 f2 => ?_⟩
    have S2 := S1.call0 c2
    have f1 := (qL qForm).mono c2.le f1
    refine rd_cat (S2.l f1) (S2.l f2) (decide_eq_true (Nat.le_trans hf (by rw [sizeLine_eq]; decide))) ?_
    refine alL' S2 (fun v3 F3 H3 c3 f3 => ?_)
    exact hQ _ _ _ (S2.call0 c3) f3
theorem okv_void_forms {C : Str} (hC : C = "Both" ∨ C = "Either") : FnOk P w K mg base CX0 1 (He.fAd K (C, some "forms")) (fdOf K (C, some "forms")) ["self"] (sp_pat_forms 0 C K) := by
  have no : ∀ vs H Q E, ¬ sp_pat_forms 0 C K vs H Q E := by
    intro vs H Q E h
    obtain ⟨_, _, a, _, _, _, _, hc, hm, _⟩ := h
    obtain ⟨h1, _, _⟩ := patN_some hm
    cases a with
    | form _ =>
      subst hc
      rcases hC with h | h
      · exact absurd (show ("Form" : Str) = "Both" from h) (by decide)
      · exact absurd (show ("Form" : Str) = "Either" from h) (by decide)
    | both l r => exact absurd (show max l.ht r.ht + 1 ≤ 0 from h1) (by omega)
    | either l r => exact absurd (show max l.ht r.ht + 1 ≤ 0 from h1) (by omega)
  exact ⟨fun vs H Q E h => absurd h (no vs H Q E), fun A outer s H args us vs Q E hr he hb hv h => absurd h (no vs H Q E)⟩
theorem vm_forms (T : Tx P K mg) : ∀ n, VM P w K mg base (n + 1) "forms" ["self"] (fun x => sp_pat_forms n x K)
  | 0 => ⟨fun x hx => by
    rcases hx with rfl | rfl | rfl
    · exact ⟨T.c_Form, T.me_Form_forms, okv_Form_forms T 0, bn_Form_forms T⟩
    · exact ⟨T.c_Both, T.me_Both_forms, okv_void_forms (.inl rfl), bn_Both_forms T⟩
    · exact ⟨T.c_Either, T.me_Either_forms, okv_void_forms (.inr rfl), bn_Either_forms T⟩⟩
  | n + 1 => ⟨fun x hx => by
    have V := vm_forms T n
    rcases hx with rfl | rfl | rfl
    · exact ⟨T.c_Form, T.me_Form_forms, okv_Form_forms T (n + 1), bn_Form_forms T⟩
    · exact ⟨T.c_Both, T.me_Both_forms, okv_Both_forms T V, bn_Both_forms T⟩
    · exact ⟨T.c_Either, T.me_Either_forms, okv_Either_forms T V, bn_Either_forms T⟩⟩
def sp_Both___init__ (K : PySem.W.Frag) : Sp := fun vs H Q _ => ∃ (F : Hp) (p_self : Addr) (dx : Addr) (v_one : V) (a_one : Pat) (v_other : V) (a_other : Pat) (r : (Pat × Pat)), vs = [.ref p_self, v_one, v_other] ∧ Same F H ∧ Ow (fun a => a = p_self) H F H p_self (.ins (He.ga K "Both") dx []) ∧ qPat.r K F v_one a_one ∧ qPat.r K F v_other a_other ∧ m_Both___init__ a_one a_other = some r ∧ ∀ (F' H' : Hp) (u0 u1 : V), Sx (fun a => a = p_self) F H F' H' → Ow (fun a => a = p_self) H F' H' p_self (.ins (He.ga K "Both") dx [("left", u0), ("right", u1)]) → qPat.r K F' u0 r.1 → qPat.r K F' u1 r.2 → Q .non H'
theorem sc_Both___init__ : FnScope ["self", "one", "other"] ["self", "one", "other"] (defScope s_Both___init__) := ⟨rfl, rfl, rfl, by decide +kernel, rfl, by decide +kernel, by decide +kernel⟩
theorem bn_Both___init__ (T : Tx P K mg) : Binds K (fdOf K ("Both", some "__init__")) ["self", "one", "other"] [] := FunD.bindsN T.F_Both___init__ fun _ _ _ _ _ _ us hl => match us, hl with | [_, _, _], _ => rfl
theorem ok_Both___init__ (T : Tx P K mg) : FnOk P w K mg base CX0 5 (He.fAd K ("Both", some "__init__")) (fdOf K ("Both", some "__init__")) ["self", "one", "other"] (sp_Both___init__ K) := by
  refine FunD.ok T.F_Both___init__ sc_Both___init__ (fun vs H0 Q E h => ?_) (fun cdv A outer s H0 vs Q E hr h => ?_)
  · obtain ⟨_, _, _, _, _, _, _, _, rfl, _⟩ := h
    rfl
  · obtain ⟨F0, p_self, dx, v_one, a_one, v_other, a_other, r, rfl, hE, w_self, f_one, f_other, hm, hQ⟩ := h
    refine ⟨_, PSs.nox ((pss_cons (ps_if (pt_cmpR op_gt (pe_op op_add (pe_callB (r := rLenQ K) cr_lenQ (by rfl) T.n_len (by decide +kernel) (pa_cons (pe_methV0 (E := E0) (pv 1)) pa_nil)) (pe_callB (r := rLenQ K) cr_lenQ (by rfl) T.n_len (by decide +kernel) (pa_cons (pe_methV0 (E := E0) (pv 2)) pa_nil))) (pe_glob (v := V.int 3) (by rfl) (T.k_MOST_FORMS.choose_spec) ⟨_, rfl⟩) (nomark _)) (pss_one ps_dead) pss_nil) (pss_cons (ps_fld (pv 0) (pv 1) rfl) (pss_one (ps_fld (pv 0) (pv 2) rfl))))), ?_⟩
    have S : Sx (fun a => a = p_self) F0 H0 F0 H0 := Sx.refl hE (live1 w_self)
    unfold m_Both___init__ at hm
    refine rd_seq ?_
    refine rd_ifS ?_
    refine rd_test ?_
    refine rd_op ?_
    refine rd_op ?_
    refine rd_cb ?_
    refine rd_cons ?_
    refine rd_methV ?_
    refine rd_v rfl ?_
    refine VM.call (vm_forms T 3) (hr.mono (by decide)) S f_one ?_
    obtain ⟨t1, e2, hm⟩ := bd_some hm
    refine rd_nil ?_
    refine ⟨F0, _, _, t1, rfl, S.sub, f_one, rfl, e2, fun v6 F3 H4 c5 f7 => ?_⟩
    have S8 := S.call0 c5
    have f_one := qPat.mono c5.le f_one
    have f_other := qPat.mono c5.le f_other
    have w_self := w_self.call0 c5
    refine rd_nil ?_
    refine rd_lenQ (S8.l f7).r.q ?_
    refine rd_cb ?_
    refine rd_cons ?_
    refine rd_methV ?_
    refine rd_v rfl ?_
    refine VM.call (vm_forms T 3) (hr.mono (by decide)) S8 f_other ?_
    obtain ⟨t9, e10, hm⟩ := bd_some hm
    refine rd_nil ?_
    refine ⟨F3, _, _, t9, rfl, S8.sub, f_other, rfl, e10, fun v14 F11 H12 c13 f15 => ?_⟩
    have S16 := S8.call0 c13
    have f_one := qPat.mono c13.le f_one
    have f_other := qPat.mono c13.le f_other
    have w_self := w_self.call0 c13
    refine rd_nil ?_
    refine rd_lenQ (S16.l f15).r.q ?_
    refine rd_I0 ?_
    refine rd_c ?_
    refine rd_I0 ?_
    refine rd_b ?_
    refine if_b hm (fun b17 hm => ?_) (fun b17 hm => ?_)
    · skip
      cases hm
    · skip
      refine rd_next ?_
      refine rd_seq ?_
      refine rd_sfld ?_
      refine rd_v rfl ?_
      refine rd_v rfl ?_
      refine fset (fs' := [("left", v_one)]) S16 w_self T.c_Both T.na_Both_left (by rfl) (by rfl) (fun H18 c19 w20 => ?_)
      have f21 : qPat.r K F11 v_one a_one := f_one
      have S22 := S16.call1 c19 w_self
      have f_one := qPat.mono c19.le f_one
      have f_other := qPat.mono c19.le f_other
      have f21 := qPat.mono c19.le f21
      refine rd_sfld ?_
      refine rd_v rfl ?_
      refine rd_v rfl ?_
      refine fset (fs' := [("left", v_one), ("right", v_other)]) S22 w20 T.c_Both T.na_Both_right (by rfl) (by rfl) (fun H23 c24 w25 => ?_)
      have f26 : qPat.r K F11 v_other a_other := f_other
      have S27 := S22.call1 c24 w20
      have f_one := qPat.mono c24.le f_one
      have f_other := qPat.mono c24.le f_other
      have f21 := qPat.mono c24.le f21
      have f26 := qPat.mono c24.le f26
      cases hm
      exact hQ _ _ v_one v_other S27 w25 f21 f26
theorem new_Both {P0' : Addr → Prop} {F0 H0 F H : Hp} {Q : VK} {E : XK} {b0 : Pat} {v0 : V} {b1 : Pat} {v1 : V} {r : (Pat × Pat)} (S : Sx P0' F0 H0 F H) (f0 : qPat.r K F v0 b0) (f1 : qPat.r K F v1 b1) (hm : m_Both___init__ b0 b1 = some r) (k : ∀ v F' H', Sx P0 F H F' H' → qBoth.r K F' v r → Q v H') : mkK (He.ga K "Both") (fun vs => sp_Both___init__ K (vs ++ [])) E Q [v0, v1] H := by
  refine mk_plain S fun x dx H1 hx c1 w => ?_
  refine ⟨F, x, dx, v0, b0, v1, b1, r, rfl, c1.sub, w, f0, f1, hm, fun F' H' u0 u1 c w' k0 k1 => ⟨rfl, ?_⟩⟩
  obtain ⟨F2, S2, le, h3⟩ := fzI c1 hx c w'
  exact k _ F2 H' S2 ⟨x, dx, u0, u1, rfl, h3, qPat.mono le k0, qPat.mono le k1⟩
def sp_Both___init___vx (K : PySem.W.Frag) : Sp := fun vs H Q E => ∃ (F : Hp) (p_self : Addr) (dx : Addr) (v_one : V) (a_one : Pat) (v_other : V) (a_other : Pat) (rr : (Except (Option Int) (Pat × Pat))), vs = [.ref p_self, v_one, v_other] ∧ Same F H ∧ Ow (fun a => a = p_self) H F H p_self (.ins (He.ga K "Both") dx []) ∧ qPat.r K F v_one a_one ∧ qPat.r K F v_other a_other ∧ m_Both___init___vx a_one a_other = some rr ∧ (∀ r, rr = .ok r → ∀ (F' H' : Hp) (u0 u1 : V), Sx (fun a => a = p_self) F H F' H' → Ow (fun a => a = p_self) H F' H' p_self (.ins (He.ga K "Both") dx [("left", u0), ("right", u1)]) → qPat.r K F' u0 r.1 → qPat.r K F' u1 r.2 → Q .non H') ∧ (∀ e cls d F' H', rr = .error e → Sx (fun a => a = p_self) F H F' H' → ErrAt K H' "NoForm" ["at"] [ovI e] cls d → E cls d H')
theorem sc_Both___init___vx : FnScope ["self", "one", "other"] ["self", "one", "other"] (defScope s_Both___init__) := ⟨rfl, rfl, rfl, by decide +kernel, rfl, by decide +kernel, by decide +kernel⟩
theorem bn_Both___init___vx (T : Tx P K mg) : Binds K (fdOf K ("Both", some "__init__")) ["self", "one", "other"] [] := FunD.bindsN T.F_Both___init__ fun _ _ _ _ _ _ us hl => match us, hl with | [_, _, _], _ => rfl
theorem ok_Both___init___vx (T : Tx P K mg) : FnOk P w K mg base (L2N.CX P w) 5 (He.fAd K ("Both", some "__init__")) (fdOf K ("Both", some "__init__")) ["self", "one", "other"] (sp_Both___init___vx K) := by
  refine FunD.ok T.F_Both___init__ sc_Both___init___vx (fun vs H0 Q E h => ?_) (fun cdv A outer s H0 vs Q E hr h => ?_)
  · obtain ⟨_, _, _, _, _, _, _, _, rfl, _⟩ := h
    rfl
  · obtain ⟨F0, p_self, dx, v_one, a_one, v_other, a_other, rr, rfl, hE, w_self, f_one, f_other, hm, hQ, hX⟩ := h
    refine ⟨_, (pss_cons (ps_if (pt_cmpR op_gt (pe_op op_add (pe_callB (r := rLenQ K) cr_lenQ (by rfl) T.n_len (by decide +kernel) (pa_cons (pe_methV0 (E := E0) (pv 1)) pa_nil)) (pe_callB (r := rLenQ K) cr_lenQ (by rfl) T.n_len (by decide +kernel) (pa_cons (pe_methV0 (E := E0) (pv 2)) pa_nil))) (pe_glob (v := V.int 3) (by rfl) (T.k_MOST_FORMS.choose_spec) ⟨_, rfl⟩) (nomark _)) (pss_one (ps_rzN (pmk_errN (k := 0) T.er_NoForm.c is_NoForm T.er_NoForm.no T.er_NoForm.g T.er_NoForm.k (room_h (hr.mono (by decide))) (by rfl) (pa_cons (pe_glob (v := V.int 3) (by rfl) (T.k_MOST_FORMS.choose_spec) ⟨_, rfl⟩) pa_nil)).n)) pss_nil) (pss_cons (ps_fld (pv 0) (pv 1) rfl) (pss_one (ps_fld (pv 0) (pv 2) rfl)))), ?_⟩
    have S : Sx (fun a => a = p_self) F0 H0 F0 H0 := Sx.refl hE (live1 w_self)
    unfold m_Both___init___vx at hm
    refine rd_seq ?_
    refine rd_ifS ?_
    refine rd_test ?_
    refine rd_op ?_
    refine rd_op ?_
    refine rd_cb ?_
    refine rd_cons ?_
    refine rd_methV ?_
    refine rd_v rfl ?_
    refine VM.call (vm_forms T 3) (hr.mono (by decide)) S f_one ?_
    obtain ⟨t1, e2, hm⟩ := bd_some hm
    refine rd_nil ?_
    refine ⟨F0, _, _, t1, rfl, S.sub, f_one, rfl, e2, fun v6 F3 H4 c5 f7 => ?_⟩
    have S8 := S.call0 c5
    have f_one := qPat.mono c5.le f_one
    have f_other := qPat.mono c5.le f_other
    have w_self := w_self.call0 c5
    refine rd_nil ?_
    refine rd_lenQ (S8.l f7).r.q ?_
    refine rd_cb ?_
    refine rd_cons ?_
    refine rd_methV ?_
    refine rd_v rfl ?_
    refine VM.call (vm_forms T 3) (hr.mono (by decide)) S8 f_other ?_
    obtain ⟨t9, e10, hm⟩ := bd_some hm
    refine rd_nil ?_
    refine ⟨F3, _, _, t9, rfl, S8.sub, f_other, rfl, e10, fun v14 F11 H12 c13 f15 => ?_⟩
    have S16 := S8.call0 c13
    have f_one := qPat.mono c13.le f_one
    have f_other := qPat.mono c13.le f_other
    have w_self := w_self.call0 c13
    refine rd_nil ?_
    refine rd_lenQ (S16.l f15).r.q ?_
    refine rd_I0 ?_
    refine rd_c ?_
    refine rd_I0 ?_
    refine rd_b ?_
    refine if_b hm (fun b17 hm => ?_) (fun b17 hm => ?_)
    · skip
      cases hm
      refine rd_rz ?_
      refine rd_cons ?_
      refine rd_c ?_
      refine rd_nil ?_
      exact rd_eK (xs := [ovI (((some (3))) : (Option Int))]) S16 rfl rfl fun cls d H1 c er => hX _ _ _ _ _ rfl c er
    · skip
      refine rd_next ?_
      refine rd_seq ?_
      refine rd_sfld ?_
      refine rd_v rfl ?_
      refine rd_v rfl ?_
      refine fset (fs' := [("left", v_one)]) S16 w_self T.c_Both T.na_Both_left (by rfl) (by rfl) (fun H18 c19 w20 => ?_)
      have f21 : qPat.r K F11 v_one a_one := f_one
      have S22 := S16.call1 c19 w_self
      have f_one := qPat.mono c19.le f_one
      have f_other := qPat.mono c19.le f_other
      have f21 := qPat.mono c19.le f21
      refine rd_sfld ?_
      refine rd_v rfl ?_
      refine rd_v rfl ?_
      refine fset (fs' := [("left", v_one), ("right", v_other)]) S22 w20 T.c_Both T.na_Both_right (by rfl) (by rfl) (fun H23 c24 w25 => ?_)
      have f26 : qPat.r K F11 v_other a_other := f_other
      have S27 := S22.call1 c24 w20
      have f_one := qPat.mono c24.le f_one
      have f_other := qPat.mono c24.le f_other
      have f21 := qPat.mono c24.le f21
      have f26 := qPat.mono c24.le f26
      cases hm
      exact hQ _ rfl _ _ v_one v_other S27 w25 f21 f26
theorem newx_Both {P0' : Addr → Prop} {F0 H0 F H : Hp} {Q : VK} {E : XK} {b0 : Pat} {v0 : V} {b1 : Pat} {v1 : V} {rr : (Except (Option Int) (Pat × Pat))} (S : Sx P0' F0 H0 F H) (f0 : qPat.r K F v0 b0) (f1 : qPat.r K F v1 b1) (hm : m_Both___init___vx b0 b1 = some rr) (k : ∀ r, rr = .ok r → ∀ v F' H', Sx P0 F H F' H' → qBoth.r K F' v r → Q v H') (kx : ∀ e cls d F' H', rr = .error e → Sx P0 F H F' H' → ErrAt K H' "NoForm" ["at"] [ovI e] cls d → E cls d H') : mkK (He.ga K "Both") (fun vs => sp_Both___init___vx K (vs ++ [])) E Q [v0, v1] H := by
  refine mk_plain S fun x dx H1 hx c1 w => ?_
  refine ⟨F, x, dx, v0, b0, v1, b1, rr, rfl, c1.sub, w, f0, f1, hm, fun r er F' H' u0 u1 c w' k0 k1 => ⟨rfl, ?_⟩, fun e cls d F' H' ee c ea => kx e cls d F' H' ee (c1.call c fun a z => .inr (by rw [z]; exact hx)) ea⟩
  obtain ⟨F2, S2, le, h3⟩ := fzI c1 hx c w'
  exact k r er _ F2 H' S2 ⟨x, dx, u0, u1, rfl, h3, qPat.mono le k0, qPat.mono le k1⟩
theorem newx_BothS {P0' : Addr → Prop} {F0 H0 F H : Hp} {Q : VK} {E : XK} {b0 : Pat} {v0 : V} {b1 : Pat} {v1 : V} {rr : (Except (Option Int) (Pat × Pat))} (S : Sx P0' F0 H0 F H) (f0 : qPat.r K F v0 b0) (f1 : qPat.r K F v1 b1) (hm : m_Both___init___vx b0 b1 = some rr) (k : ∀ r, rr = .ok r → ∀ v F' H', Sx P0 F H F' H' → qBoth.r K F' v r → Q v H') (kx : ∀ e cls d F' H', rr = .error e → Sx P0 F H F' H' → ErrAt K H' "NoForm" ["at"] [ovI e] cls d → E cls d H') : mkK (He.ga K "Both") (sp_Both___init___vx K) E Q [v0, v1] H := by
  refine mk_plain S fun x dx H1 hx c1 w => ?_
  refine ⟨F, x, dx, v0, b0, v1, b1, rr, rfl, c1.sub, w, f0, f1, hm, fun r er F' H' u0 u1 c w' k0 k1 => ⟨rfl, ?_⟩, fun e cls d F' H' ee c ea => kx e cls d F' H' ee (c1.call c fun a z => .inr (by rw [z]; exact hx)) ea⟩
  obtain ⟨F2, S2, le, h3⟩ := fzI c1 hx c w'
  exact k r er _ F2 H' S2 ⟨x, dx, u0, u1, rfl, h3, qPat.mono le k0, qPat.mono le k1⟩
def sp_Pattern___and__ (K : PySem.W.Frag) : Sp := fun vs H Q _ => ∃ (F : Hp) (v_self : V) (a_self : Pat) (v_other : V) (a_other : Pat) (r : Pat), vs = [v_self, v_other] ∧ Same F H ∧ qPat.r K F v_self a_self ∧ qPat.r K F v_other a_other ∧ m_Pattern___and__ a_self a_other = some r ∧ ∀ v F' H', Sx P0 F H F' H' → qPat.r K F' v r → Q v H'
theorem sc_Pattern___and__ : FnScope ["self", "other"] ["self", "other"] (defScope s_Pattern___and__) := ⟨rfl, rfl, rfl, by decide +kernel, rfl, by decide +kernel, by decide +kernel⟩
theorem bn_Pattern___and__ (T : Tx P K mg) : Binds K (fdOf K ("Pattern", some "__and__")) ["self", "other"] [] := FunD.bindsN T.F_Pattern___and__ fun _ _ _ _ _ _ us hl => match us, hl with | [_, _], _ => rfl
theorem ok_Pattern___and__ (T : Tx P K mg) : FnOk P w K mg base CX0 7 (He.fAd K ("Pattern", some "__and__")) (fdOf K ("Pattern", some "__and__")) ["self", "other"] (sp_Pattern___and__ K) := by
  refine FunD.ok T.F_Pattern___and__ sc_Pattern___and__ (fun vs H0 Q E h => ?_) (fun cdv A outer s H0 vs Q E hr h => ?_)
  · obtain ⟨_, _, _, _, _, _, rfl, _⟩ := h
    rfl
  · obtain ⟨F0, v_self, a_self, v_other, a_other, r, rfl, hE, f_self, f_other, hm, hQ⟩ := h
    refine ⟨_, PSs.nox ((pss_cons (ps_if (pt_not (pt_val (pe_callB (r := rIsi K) call_isi (by rfl) T.n_isinstance (by decide +kernel) (pa_cons (pv 1) (pa_cons (pe_glob (v := V.ref (He.ga K "Pattern")) (by rfl) T.gc_Pattern rfl) pa_nil))))) pss_dead pss_nil) (pss_one (ps_ret (pe_make T.mk_Both (ok_Both___init__ T) (hr.mono (by decide)) (by rfl) T.gc_Both (bn_Both___init__ T) .nil pass0 (pa_cons (pv 0) (pa_cons (pv 1) pa_nil))))))), ?_⟩
    have S : Sx P0 F0 H0 F0 H0 := Sx.refl0 hE
    unfold m_Pattern___and__ at hm
    obtain ⟨t1, e2, hm⟩ := bd_some hm
    refine rd_seq ?_
    refine rd_ifS ?_
    refine rd_not ?_
    refine rd_tB ?_
    refine rd_cb ?_
    refine rd_cons ?_
    refine rd_v rfl ?_
    refine rd_cons ?_
    refine rd_c ?_
    refine rd_nil ?_
    refine rd_isPat T.pf S f_other ?_
    refine rd_b ?_
    refine if_ff ?_
    refine rd_next ?_
    refine rd_ret ?_
    refine rd_make ?_
    refine rd_cons ?_
    refine rd_v rfl ?_
    refine rd_cons ?_
    refine rd_v rfl ?_
    refine rd_nil ?_
    refine new_Both S f_self f_other e2 (fun v3 F4 H5 c6 f7 => ?_)
    have S8 := S.call0 c6
    have f_self := qPat.mono c6.le f_self
    have f_other := qPat.mono c6.le f_other
    have f9 : qPat.r K F4 v3 (Pat.both (t1).1 (t1).2) := (show qPat.r K F4 v3 _ from f7)
    cases hm
    exact hQ _ _ _ S8 f9
def sp_Pattern___and___vx (K : PySem.W.Frag) : Sp := fun vs H Q E => ∃ (F : Hp) (v_self : V) (a_self : Pat) (v_other : V) (a_other : Pat) (rr : (Except (Option Int) Pat)), vs = [v_self, v_other] ∧ Same F H ∧ qPat.r K F v_self a_self ∧ qPat.r K F v_other a_other ∧ m_Pattern___and___vx a_self a_other = some rr ∧ (∀ r, rr = .ok r → ∀ v F' H', Sx P0 F H F' H' → qPat.r K F' v r → Q v H') ∧ (∀ e cls d F' H', rr = .error e → Sx P0 F H F' H' → ErrAt K H' "NoForm" ["at"] [ovI e] cls d → E cls d H')
theorem sc_Pattern___and___vx : FnScope ["self", "other"] ["self", "other"] (defScope s_Pattern___and__) := ⟨rfl, rfl, rfl, by decide +kernel, rfl, by decide +kernel, by decide +kernel⟩
theorem bn_Pattern___and___vx (T : Tx P K mg) : Binds K (fdOf K ("Pattern", some "__and__")) ["self", "other"] [] := FunD.bindsN T.F_Pattern___and__ fun _ _ _ _ _ _ us hl => match us, hl with | [_, _], _ => rfl
theorem ok_Pattern___and___vx (T : Tx P K mg) : FnOk P w K mg base (L2N.CX P w) 7 (He.fAd K ("Pattern", some "__and__")) (fdOf K ("Pattern", some "__and__")) ["self", "other"] (sp_Pattern___and___vx K) := by
  refine FunD.ok T.F_Pattern___and__ sc_Pattern___and___vx (fun vs H0 Q E h => ?_) (fun cdv A outer s H0 vs Q E hr h => ?_)
  · obtain ⟨_, _, _, _, _, _, rfl, _⟩ := h
    rfl
  · obtain ⟨F0, v_self, a_self, v_other, a_other, rr, rfl, hE, f_self, f_other, hm, hQ, hX⟩ := h
    refine ⟨_, (pss_cons (ps_if (pt_not (pt_val (pe_callB (r := rIsi K) call_isi (by rfl) T.n_isinstance (by decide +kernel) (pa_cons (pv 1) (pa_cons (pe_glob (v := V.ref (He.ga K "Pattern")) (by rfl) T.gc_Pattern rfl) pa_nil))))) pss_dead pss_nil) (pss_one (ps_ret (pe_make T.mk_Both (ok_Both___init___vx T) (hr.mono (by decide)) (by rfl) T.gc_Both (bn_Both___init___vx T) .nil passes_cxN (pa_cons (pv 0) (pa_cons (pv 1) pa_nil)))))), ?_⟩
    have S : Sx P0 F0 H0 F0 H0 := Sx.refl0 hE
    unfold m_Pattern___and___vx at hm
    obtain ⟨t1, e2, hm⟩ := bd_some hm
    refine rd_seq ?_
    refine rd_ifS ?_
    refine rd_not ?_
    refine rd_tB ?_
    refine rd_cb ?_
    refine rd_cons ?_
    refine rd_v rfl ?_
    refine rd_cons ?_
    refine rd_c ?_
    refine rd_nil ?_
    refine rd_isPat T.pf S f_other ?_
    refine rd_b ?_
    refine if_ff ?_
    refine rd_next ?_
    refine rd_ret ?_
    refine rd_make ?_
    refine rd_cons ?_
    refine rd_v rfl ?_
    refine rd_cons ?_
    refine rd_v rfl ?_
    refine rd_nil ?_
    refine newx_Both S f_self f_other e2 ?_ ?_
    rotate_left
    · skip
      intro x10 cls11 d12 F13 H14 ee15 c16 ea17
      exact hX _ _ _ _ _ (exB_err ee15 hm) (S.call0 c16) ea17
    intro t3 er4 v5 F6 H7 c8 f9
    subst er4
    have hm := exB_ok hm
    have S18 := S.call0 c8
    have f_self := qPat.mono c8.le f_self
    have f_other := qPat.mono c8.le f_other
    have f19 : qPat.r K F6 v5 (Pat.both (t3).1 (t3).2) := (show qPat.r K F6 v5 _ from f9)
    cases hm
    exact hQ _ rfl _ _ _ S18 f19
def sp_Either___init__ (K : PySem.W.Frag) : Sp := fun vs H Q _ => ∃ (F : Hp) (p_self : Addr) (dx : Addr) (v_one : V) (a_one : Pat) (v_other : V) (a_other : Pat) (r : (Pat × Pat)), vs = [.ref p_self, v_one, v_other] ∧ Same F H ∧ Ow (fun a => a = p_self) H F H p_self (.ins (He.ga K "Either") dx []) ∧ qPat.r K F v_one a_one ∧ qPat.r K F v_other a_other ∧ m_Either___init__ a_one a_other = some r ∧ ∀ (F' H' : Hp) (u0 u1 : V), Sx (fun a => a = p_self) F H F' H' → Ow (fun a => a = p_self) H F' H' p_self (.ins (He.ga K "Either") dx [("left", u0), ("right", u1)]) → qPat.r K F' u0 r.1 → qPat.r K F' u1 r.2 → Q .non H'
theorem sc_Either___init__ : FnScope ["self", "one", "other"] ["self", "one", "other"] (defScope s_Either___init__) := ⟨rfl, rfl, rfl, by decide +kernel, rfl, by decide +kernel, by decide +kernel⟩
theorem bn_Either___init__ (T : Tx P K mg) : Binds K (fdOf K ("Either", some "__init__")) ["self", "one", "other"] [] := FunD.bindsN T.F_Either___init__ fun _ _ _ _ _ _ us hl => match us, hl with | [_, _, _], _ => rfl
theorem ok_Either___init__ (T : Tx P K mg) : FnOk P w K mg base CX0 5 (He.fAd K ("Either", some "__init__")) (fdOf K ("Either", some "__init__")) ["self", "one", "other"] (sp_Either___init__ K) := by
  refine FunD.ok T.F_Either___init__ sc_Either___init__ (fun vs H0 Q E h => ?_) (fun cdv A outer s H0 vs Q E hr h => ?_)
  · obtain ⟨_, _, _, _, _, _, _, _, rfl, _⟩ := h
    rfl
  · obtain ⟨F0, p_self, dx, v_one, a_one, v_other, a_other, r, rfl, hE, w_self, f_one, f_other, hm, hQ⟩ := h
    refine ⟨_, PSs.nox ((pss_cons (ps_if (pt_cmpR op_gt (pe_op op_add (pe_callB (r := rLenQ K) cr_lenQ (by rfl) T.n_len (by decide +kernel) (pa_cons (pe_methV0 (E := E0) (pv 1)) pa_nil)) (pe_callB (r := rLenQ K) cr_lenQ (by rfl) T.n_len (by decide +kernel) (pa_cons (pe_methV0 (E := E0) (pv 2)) pa_nil))) (pe_glob (v := V.int 3) (by rfl) (T.k_MOST_FORMS.choose_spec) ⟨_, rfl⟩) (nomark _)) (pss_one ps_dead) pss_nil) (pss_cons (ps_fld (pv 0) (pv 1) rfl) (pss_one (ps_fld (pv 0) (pv 2) rfl))))), ?_⟩
    have S : Sx (fun a => a = p_self) F0 H0 F0 H0 := Sx.refl hE (live1 w_self)
    unfold m_Either___init__ at hm
    refine rd_seq ?_
    refine rd_ifS ?_
    refine rd_test ?_
    refine rd_op ?_
    refine rd_op ?_
    refine rd_cb ?_
    refine rd_cons ?_
    refine rd_methV ?_
    refine rd_v rfl ?_
    refine VM.call (vm_forms T 3) (hr.mono (by decide)) S f_one ?_
    obtain ⟨t1, e2, hm⟩ := bd_some hm
    refine rd_nil ?_
    refine ⟨F0, _, _, t1, rfl, S.sub, f_one, rfl, e2, fun v6 F3 H4 c5 f7 => ?_⟩
    have S8 := S.call0 c5
    have f_one := qPat.mono c5.le f_one
    have f_other := qPat.mono c5.le f_other
    have w_self := w_self.call0 c5
    refine rd_nil ?_
    refine rd_lenQ (S8.l f7).r.q ?_
    refine rd_cb ?_
    refine rd_cons ?_
    refine rd_methV ?_
    refine rd_v rfl ?_
    refine VM.call (vm_forms T 3) (hr.mono (by decide)) S8 f_other ?_
    obtain ⟨t9, e10, hm⟩ := bd_some hm
    refine rd_nil ?_
    refine ⟨F3, _, _, t9, rfl, S8.sub, f_other, rfl, e10, fun v14 F11 H12 c13 f15 => ?_⟩
    have S16 := S8.call0 c13
    have f_one := qPat.mono c13.le f_one
    have f_other := qPat.mono c13.le f_other
    have w_self := w_self.call0 c13
    refine rd_nil ?_
    refine rd_lenQ (S16.l f15).r.q ?_
    refine rd_I0 ?_
    refine rd_c ?_
    refine rd_I0 ?_
    refine rd_b ?_
    refine if_b hm (fun b17 hm => ?_) (fun b17 hm => ?_)
    · skip
      cases hm
    · skip
      refine rd_next ?_
      refine rd_seq ?_
      refine rd_sfld ?_
      refine rd_v rfl ?_
      refine rd_v rfl ?_
      refine fset (fs' := [("left", v_one)]) S16 w_self T.c_Either T.na_Either_left (by rfl) (by rfl) (fun H18 c19 w20 => ?_)
      have f21 : qPat.r K F11 v_one a_one := f_one
      have S22 := S16.call1 c19 w_self
      have f_one := qPat.mono c19.le f_one
      have f_other := qPat.mono c19.le f_other
      have f21 := qPat.mono c19.le f21
      refine rd_sfld ?_
      refine rd_v rfl ?_
      refine rd_v rfl ?_
      refine fset (fs' := [("left", v_one), ("right", v_other)]) S22 w20 T.c_Either T.na_Either_right (by rfl) (by rfl) (fun H23 c24 w25 => ?_)
      have f26 : qPat.r K F11 v_other a_other := f_other
      have S27 := S22.call1 c24 w20
      have f_one := qPat.mono c24.le f_one
      have f_other := qPat.mono c24.le f_other
      have f21 := qPat.mono c24.le f21
      have f26 := qPat.mono c24.le f26
      cases hm
      exact hQ _ _ v_one v_other S27 w25 f21 f26
theorem new_Either {P0' : Addr → Prop} {F0 H0 F H : Hp} {Q : VK} {E : XK} {b0 : Pat} {v0 : V} {b1 : Pat} {v1 : V} {r : (Pat × Pat)} (S : Sx P0' F0 H0 F H) (f0 : qPat.r K F v0 b0) (f1 : qPat.r K F v1 b1) (hm : m_Either___init__ b0 b1 = some r) (k : ∀ v F' H', Sx P0 F H F' H' → qEither.r K F' v r → Q v H') : mkK (He.ga K "Either") (fun vs => sp_Either___init__ K (vs ++ [])) E Q [v0, v1] H := by
  refine mk_plain S fun x dx H1 hx c1 w => ?_
  refine ⟨F, x, dx, v0, b0, v1, b1, r, rfl, c1.sub, w, f0, f1, hm, fun F' H' u0 u1 c w' k0 k1 => ⟨rfl, ?_⟩⟩
  obtain ⟨F2, S2, le, h3⟩ := fzI c1 hx c w'
  exact k _ F2 H' S2 ⟨x, dx, u0, u1, rfl, h3, qPat.mono le k0, qPat.mono le k1⟩
def sp_Either___init___vx (K : PySem.W.Frag) : Sp := fun vs H Q E => ∃ (F : Hp) (p_self : Addr) (dx : Addr) (v_one : V) (a_one : Pat) (v_other : V) (a_other : Pat) (rr : (Except (Option Int) (Pat × Pat))), vs = [.ref p_self, v_one, v_other] ∧ Same F H ∧ Ow (fun a => a = p_self) H F H p_self (.ins (He.ga K "Either") dx []) ∧ qPat.r K F v_one a_one ∧ qPat.r K F v_other a_other ∧ m_Either___init___vx a_one a_other = some rr ∧ (∀ r, rr = .ok r → ∀ (F' H' : Hp) (u0 u1 : V), Sx (fun a => a = p_self) F H F' H' → Ow (fun a => a = p_self) H F' H' p_self (.ins (He.ga K "Either") dx [("left", u0), ("right", u1)]) → qPat.r K F' u0 r.1 → qPat.r K F' u1 r.2 → Q .non H') ∧ (∀ e cls d F' H', rr = .error e → Sx (fun a => a = p_self) F H F' H' → ErrAt K H' "NoForm" ["at"] [ovI e] cls d → E cls d H')
theorem sc_Either___init___vx : FnScope ["self", "one", "other"] ["self", "one", "other"] (defScope s_Either___init__) := ⟨rfl, rfl, rfl, by decide +kernel, rfl, by decide +kernel, by decide +kernel⟩
theorem bn_Either___init___vx (T : Tx P K mg) : Binds K (fdOf K ("Either", some "__init__")) ["self", "one", "other"] [] := FunD.bindsN T.F_Either___init__ fun _ _ _ _ _ _ us hl => match us, hl with | [_, _, _], _ => rfl
theorem ok_Either___init___vx (T : Tx P K mg) : FnOk P w K mg base (L2N.CX P w) 5 (He.fAd K ("Either", some "__init__")) (fdOf K ("Either", some "__init__")) ["self", "one", "other"] (sp_Either___init___vx K) := by
  refine FunD.ok T.F_Either___init__ sc_Either___init___vx (fun vs H0 Q E h => ?_) (fun cdv A outer s H0 vs Q E hr h => ?_)
  · obtain ⟨_, _, _, _, _, _, _, _, rfl, _⟩ := h
    rfl
  · obtain ⟨F0, p_self, dx, v_one, a_one, v_other, a_other, rr, rfl, hE, w_self, f_one, f_other, hm, hQ, hX⟩ := h
    refine ⟨_, (pss_cons (ps_if (pt_cmpR op_gt (pe_op op_add (pe_callB (r := rLenQ K) cr_lenQ (by rfl) T.n_len (by decide +kernel) (pa_cons (pe_methV0 (E := E0) (pv 1)) pa_nil)) (pe_callB (r := rLenQ K) cr_lenQ (by rfl) T.n_len (by decide +kernel) (pa_cons (pe_methV0 (E := E0) (pv 2)) pa_nil))) (pe_glob (v := V.int 3) (by rfl) (T.k_MOST_FORMS.choose_spec) ⟨_, rfl⟩) (nomark _)) (pss_one (ps_rzN (pmk_errN (k := 0) T.er_NoForm.c is_NoForm T.er_NoForm.no T.er_NoForm.g T.er_NoForm.k (room_h (hr.mono (by decide))) (by rfl) (pa_cons (pe_glob (v := V.int 3) (by rfl) (T.k_MOST_FORMS.choose_spec) ⟨_, rfl⟩) pa_nil)).n)) pss_nil) (pss_cons (ps_fld (pv 0) (pv 1) rfl) (pss_one (ps_fld (pv 0) (pv 2) rfl)))), ?_⟩
    have S : Sx (fun a => a = p_self) F0 H0 F0 H0 := Sx.refl hE (live1 w_self)
    unfold m_Either___init___vx at hm
    refine rd_seq ?_
    refine rd_ifS ?_
    refine rd_test ?_
    refine rd_op ?_
    refine rd_op ?_
    refine rd_cb ?_
    refine rd_cons ?_
    refine rd_methV ?_
    refine rd_v rfl ?_
    refine VM.call (vm_forms T 3) (hr.mono (by decide)) S f_one ?_
    obtain ⟨t1, e2, hm⟩ := bd_some hm
    refine rd_nil ?_
    refine ⟨F0, _, _, t1, rfl, S.sub, f_one, rfl, e2, fun v6 F3 H4 c5 f7 => ?_⟩
    have S8 := S.call0 c5
    have f_one := qPat.mono c5.le f_one
    have f_other := qPat.mono c5.le f_other
    have w_self := w_self.call0 c5
    refine rd_nil ?_
    refine rd_lenQ (S8.l f7).r.q ?_
    refine rd_cb ?_
    refine rd_cons ?_
    refine rd_methV ?_
    refine rd_v rfl ?_
    refine VM.call (vm_forms T 3) (hr.mono (by decide)) S8 f_other ?_
    obtain ⟨t9, e10, hm⟩ := bd_some hm
    refine rd_nil ?_
    refine ⟨F3, _, _, t9, rfl, S8.sub, f_other, rfl, e10, fun v14 F11 H12 c13 f15 => ?_⟩
    have S16 := S8.call0 c13
    have f_one := qPat.mono c13.le f_one
    have f_other := qPat.mono c13.le f_other
    have w_self := w_self.call0 c13
    refine rd_nil ?_
    refine rd_lenQ (S16.l f15).r.q ?_
    refine rd_I0 ?_
    refine rd_c ?_
    refine rd_I0 ?_
    refine rd_b ?_
    refine if_b hm (fun b17 hm => ?_) (fun b17 hm => ?_)
    · skip
      cases hm
      refine rd_rz ?_
      refine rd_cons ?_
      refine rd_c ?_
      refine rd_nil ?_
      exact rd_eK (xs := [ovI (((some (3))) : (Option Int))]) S16 rfl rfl fun cls d H1 c er => hX _ _ _ _ _ rfl c er
    · skip
      refine rd_next ?_
      refine rd_seq ?_
      refine rd_sfld ?_
      refine rd_v rfl ?_
      refine rd_v rfl ?_
      refine fset (fs' := [("left", v_one)]) S16 w_self T.c_Either T.na_Either_left (by rfl) (by rfl) (fun H18 c19 w20 => ?_)
      have f21 : qPat.r K F11 v_one a_one := f_one
      have S22 := S16.call1 c19 w_self
      have f_one := qPat.mono c19.le f_one
      have f_other := qPat.mono c19.le f_other
      have f21 := qPat.mono c19.le f21
      refine rd_sfld ?_
      refine rd_v rfl ?_
      refine rd_v rfl ?_
      refine fset (fs' := [("left", v_one), ("right", v_other)]) S22 w20 T.c_Either T.na_Either_right (by rfl) (by rfl) (fun H23 c24 w25 => ?_)
      have f26 : qPat.r K F11 v_other a_other := f_other
      have S27 := S22.call1 c24 w20
      have f_one := qPat.mono c24.le f_one
      have f_other := qPat.mono c24.le f_other
      have f21 := qPat.mono c24.le f21
      have f26 := qPat.mono c24.le f26
      cases hm
      exact hQ _ rfl _ _ v_one v_other S27 w25 f21 f26
theorem newx_Either {P0' : Addr → Prop} {F0 H0 F H : Hp} {Q : VK} {E : XK} {b0 : Pat} {v0 : V} {b1 : Pat} {v1 : V} {rr : (Except (Option Int) (Pat × Pat))} (S : Sx P0' F0 H0 F H) (f0 : qPat.r K F v0 b0) (f1 : qPat.r K F v1 b1) (hm : m_Either___init___vx b0 b1 = some rr) (k : ∀ r, rr = .ok r → ∀ v F' H', Sx P0 F H F' H' → qEither.r K F' v r → Q v H') (kx : ∀ e cls d F' H', rr = .error e → Sx P0 F H F' H' → ErrAt K H' "NoForm" ["at"] [ovI e] cls d → E cls d H') : mkK (He.ga K "Either") (fun vs => sp_Either___init___vx K (vs ++ [])) E Q [v0, v1] H := by
  refine mk_plain S fun x dx H1 hx c1 w => ?_
  refine ⟨F, x, dx, v0, b0, v1, b1, rr, rfl, c1.sub, w, f0, f1, hm, fun r er F' H' u0 u1 c w' k0 k1 => ⟨rfl, ?_⟩, fun e cls d F' H' ee c ea => kx e cls d F' H' ee (c1.call c fun a z => .inr (by rw [z]; exact hx)) ea⟩
  obtain ⟨F2, S2, le, h3⟩ := fzI c1 hx c w'
  exact k r er _ F2 H' S2 ⟨x, dx, u0, u1, rfl, h3, qPat.mono le k0, qPat.mono le k1⟩
theorem newx_EitherS {P0' : Addr → Prop} {F0 H0 F H : Hp} {Q : VK} {E : XK} {b0 : Pat} {v0 : V} {b1 : Pat} {v1 : V} {rr : (Except (Option Int) (Pat × Pat))} (S : Sx P0' F0 H0 F H) (f0 : qPat.r K F v0 b0) (f1 : qPat.r K F v1 b1) (hm : m_Either___init___vx b0 b1 = some rr) (k : ∀ r, rr = .ok r → ∀ v F' H', Sx P0 F H F' H' → qEither.r K F' v r → Q v H') (kx : ∀ e cls d F' H', rr = .error e → Sx P0 F H F' H' → ErrAt K H' "NoForm" ["at"] [ovI e] cls d → E cls d H') : mkK (He.ga K "Either") (sp_Either___init___vx K) E Q [v0, v1] H := by
  refine mk_plain S fun x dx H1 hx c1 w => ?_
  refine ⟨F, x, dx, v0, b0, v1, b1, rr, rfl, c1.sub, w, f0, f1, hm, fun r er F' H' u0 u1 c w' k0 k1 => ⟨rfl, ?_⟩, fun e cls d F' H' ee c ea => kx e cls d F' H' ee (c1.call c fun a z => .inr (by rw [z]; exact hx)) ea⟩
  obtain ⟨F2, S2, le, h3⟩ := fzI c1 hx c w'
  exact k r er _ F2 H' S2 ⟨x, dx, u0, u1, rfl, h3, qPat.mono le k0, qPat.mono le k1⟩
def sp_Pattern___or__ (K : PySem.W.Frag) : Sp := fun vs H Q _ => ∃ (F : Hp) (v_self : V) (a_self : Pat) (v_other : V) (a_other : Pat) (r : Pat), vs = [v_self, v_other] ∧ Same F H ∧ qPat.r K F v_self a_self ∧ qPat.r K F v_other a_other ∧ m_Pattern___or__ a_self a_other = some r ∧ ∀ v F' H', Sx P0 F H F' H' → qPat.r K F' v r → Q v H'
theorem sc_Pattern___or__ : FnScope ["self", "other"] ["self", "other"] (defScope s_Pattern___or__) := ⟨rfl, rfl, rfl, by decide +kernel, rfl, by decide +kernel, by decide +kernel⟩
theorem bn_Pattern___or__ (T : Tx P K mg) : Binds K (fdOf K ("Pattern", some "__or__")) ["self", "other"] [] := FunD.bindsN T.F_Pattern___or__ fun _ _ _ _ _ _ us hl => match us, hl with | [_, _], _ => rfl
theorem ok_Pattern___or__ (T : Tx P K mg) : FnOk P w K mg base CX0 7 (He.fAd K ("Pattern", some "__or__")) (fdOf K ("Pattern", some "__or__")) ["self", "other"] (sp_Pattern___or__ K) := by
  refine FunD.ok T.F_Pattern___or__ sc_Pattern___or__ (fun vs H0 Q E h => ?_) (fun cdv A outer s H0 vs Q E hr h => ?_)
  · obtain ⟨_, _, _, _, _, _, rfl, _⟩ := h
    rfl
  · obtain ⟨F0, v_self, a_self, v_other, a_other, r, rfl, hE, f_self, f_other, hm, hQ⟩ := h
    refine ⟨_, PSs.nox ((pss_cons (ps_if (pt_not (pt_val (pe_callB (r := rIsi K) call_isi (by rfl) T.n_isinstance (by decide +kernel) (pa_cons (pv 1) (pa_cons (pe_glob (v := V.ref (He.ga K "Pattern")) (by rfl) T.gc_Pattern rfl) pa_nil))))) pss_dead pss_nil) (pss_one (ps_ret (pe_make T.mk_Either (ok_Either___init__ T) (hr.mono (by decide)) (by rfl) T.gc_Either (bn_Either___init__ T) .nil pass0 (pa_cons (pv 0) (pa_cons (pv 1) pa_nil))))))), ?_⟩
    have S : Sx P0 F0 H0 F0 H0 := Sx.refl0 hE
    unfold m_Pattern___or__ at hm
    obtain ⟨t1, e2, hm⟩ := bd_some hm
    refine rd_seq ?_
    refine rd_ifS ?_
    refine rd_not ?_
    refine rd_tB ?_
    refine rd_cb ?_
    refine rd_cons ?_
    refine rd_v rfl ?_
    refine rd_cons ?_
    refine rd_c ?_
    refine rd_nil ?_
    refine rd_isPat T.pf S f_other ?_
    refine rd_b ?_
    refine if_ff ?_
    refine rd_next ?_
    refine rd_ret ?_
    refine rd_make ?_
    refine rd_cons ?_
    refine rd_v rfl ?_
    refine rd_cons ?_
    refine rd_v rfl ?_
    refine rd_nil ?_
    refine new_Either S f_self f_other e2 (fun v3 F4 H5 c6 f7 => ?_)
    have S8 := S.call0 c6
    have f_self := qPat.mono c6.le f_self
    have f_other := qPat.mono c6.le f_other
    have f9 : qPat.r K F4 v3 (Pat.either (t1).1 (t1).2) := (show qPat.r K F4 v3 _ from f7)
    cases hm
    exact hQ _ _ _ S8 f9
def sp_Pattern___or___vx (K : PySem.W.Frag) : Sp := fun vs H Q E => ∃ (F : Hp) (v_self : V) (a_self : Pat) (v_other : V) (a_other : Pat) (rr : (Except (Option Int) Pat)), vs = [v_self, v_other] ∧ Same F H ∧ qPat.r K F v_self a_self ∧ qPat.r K F v_other a_other ∧ m_Pattern___or___vx a_self a_other = some rr ∧ (∀ r, rr = .ok r → ∀ v F' H', Sx P0 F H F' H' → qPat.r K F' v r → Q v H') ∧ (∀ e cls d F' H', rr = .error e → Sx P0 F H F' H' → ErrAt K H' "NoForm" ["at"] [ovI e] cls d → E cls d H')
theorem sc_Pattern___or___vx : FnScope ["self", "other"] ["self", "other"] (defScope s_Pattern___or__) := ⟨rfl, rfl, rfl, by decide +kernel, rfl, by decide +kernel, by decide +kernel⟩
theorem bn_Pattern___or___vx (T : Tx P K mg) : Binds K (fdOf K ("Pattern", some "__or__")) ["self", "other"] [] := FunD.bindsN T.F_Pattern___or__ fun _ _ _ _ _ _ us hl => match us, hl with | [_, _], _ => rfl
theorem ok_Pattern___or___vx (T : Tx P K mg) : FnOk P w K mg base (L2N.CX P w) 7 (He.fAd K ("Pattern", some "__or__")) (fdOf K ("Pattern", some "__or__")) ["self", "other"] (sp_Pattern___or___vx K) := by
  refine FunD.ok T.F_Pattern___or__ sc_Pattern___or___vx (fun vs H0 Q E h => ?_) (fun cdv A outer s H0 vs Q E hr h => ?_)
  · obtain ⟨_, _, _, _, _, _, rfl, _⟩ := h
    rfl
  · obtain ⟨F0, v_self, a_self, v_other, a_other, rr, rfl, hE, f_self, f_other, hm, hQ, hX⟩ := h
    refine ⟨_, (pss_cons (ps_if (pt_not (pt_val (pe_callB (r := rIsi K) call_isi (by rfl) T.n_isinstance (by decide +kernel) (pa_cons (pv 1) (pa_cons (pe_glob (v := V.ref (He.ga K "Pattern")) (by rfl) T.gc_Pattern rfl) pa_nil))))) pss_dead pss_nil) (pss_one (ps_ret (pe_make T.mk_Either (ok_Either___init___vx T) (hr.mono (by decide)) (by rfl) T.gc_Either (bn_Either___init___vx T) .nil passes_cxN (pa_cons (pv 0) (pa_cons (pv 1) pa_nil)))))), ?_⟩
    have S : Sx P0 F0 H0 F0 H0 := Sx.refl0 hE
    unfold m_Pattern___or___vx at hm
    obtain ⟨t1, e2, hm⟩ := bd_some hm
    refine rd_seq ?_
    refine rd_ifS ?_
    refine rd_not ?_
    refine rd_tB ?_
    refine rd_cb ?_
    refine rd_cons ?_
    refine rd_v rfl ?_
    refine rd_cons ?_
    refine rd_c ?_
    refine rd_nil ?_
    refine rd_isPat T.pf S f_other ?_
    refine rd_b ?_
    refine if_ff ?_
    refine rd_next ?_
    refine rd_ret ?_
    refine rd_make ?_
    refine rd_cons ?_
    refine rd_v rfl ?_
    refine rd_cons ?_
    refine rd_v rfl ?_
    refine rd_nil ?_
    refine newx_Either S f_self f_other e2 ?_ ?_
    rotate_left
    · skip
      intro x10 cls11 d12 F13 H14 ee15 c16 ea17
      exact hX _ _ _ _ _ (exB_err ee15 hm) (S.call0 c16) ea17
    intro t3 er4 v5 F6 H7 c8 f9
    subst er4
    have hm := exB_ok hm
    have S18 := S.call0 c8
    have f_self := qPat.mono c8.le f_self
    have f_other := qPat.mono c8.le f_other
    have f19 : qPat.r K F6 v5 (Pat.either (t3).1 (t3).2) := (show qPat.r K F6 v5 _ from f9)
    cases hm
    exact hQ _ rfl _ _ _ S18 f19
def sp_parts_of (K : PySem.W.Frag) : Sp := fun vs H Q _ => ∃ (F : Hp) (a_text : Str) (r : (Option (List Str))), vs = [(V.str (a_text))] ∧ Same F H ∧ m_parts_of a_text = some r ∧ ∀ v F' H', Sx P0 F H F' H' → (qO (qL qS)).r K F' v r → Q v H'
theorem sc_parts_of : FnScope ["text", "parts", "at", "found", "free", "end"] ["text"] (defScope s_parts_of) := ⟨rfl, rfl, rfl, by decide +kernel, rfl, by decide +kernel, by decide +kernel⟩
theorem bn_parts_of (T : Tx P K mg) : Binds K (fdOf K ("parts_of", none)) ["text"] [] := FunD.bindsN T.F_parts_of fun _ _ _ _ _ _ us hl => match us, hl with | [_], _ => rfl
theorem ok_parts_of (T : Tx P K mg) : FnOk P w K mg base CX0 1 (He.ga K "parts_of") (fdOf K ("parts_of", none)) ["text"] (sp_parts_of K) := by
  refine FunD.ok T.F_parts_of sc_parts_of (fun vs H0 Q E h => ?_) (fun cdv A outer s H0 vs Q E hr h => ?_)
  · obtain ⟨_, _, _, rfl, _⟩ := h
    rfl
  · obtain ⟨F0, a_text, r, rfl, hE, hm, hQ⟩ := h
    refine ⟨_, PSs.nox ((pss_cons (ps_set (i := 1) sc_parts_of.nd rfl (dk rfl) (pe_lst pa_nil)) (pss_cons (ps_set (i := 2) sc_parts_of.nd rfl (dk rfl) pe_int) (pss_cons (ps_while PassesOwn.never (pt_cmpR op_lt (pv 2) (pe_callB cr_lenS (by rfl) T.n_len (by decide +kernel) (pa_cons (pv 0) pa_nil)) (nomark _)) (pss_cons (ps_set (i := 3) sc_parts_of.nd rfl (dk rfl) pe_str) (pss_cons (ps_for PassesOwn.never rfl (pi_tupK (pe_glob (v := V.ref (He.ga K "FREE_CELLS")) (by rfl) T.g_FREE_CELLS rfl)) (pg_name (i := 4) sc_parts_of.nd rfl (dk rfl)) (pss_one (ps_if (pt_val (pe_bmK (K := K) PySem.F.plainAttrs_str PySem.F.slot_str_startswith PySem.F.type_str_startswith mt_startswith3 (pv 0) (pa_cons (pv 4) (pa_cons (pv 2) pa_nil)))) (pss_one (ps_set (i := 3) sc_parts_of.nd rfl (dk rfl) (pv 4))) pss_nil))) (pss_cons (ps_set (i := 5) sc_parts_of.nd rfl (dk rfl) (pv 2)) (pss_cons (ps_while PassesOwn.never (PW.pt (pw_and (pt_cmpR op_eqS (pv 3) pe_str (nomark _)) (pw_and (pt_cmpR op_lt (pv 5) (pe_callB cr_lenS (by rfl) T.n_len (by decide +kernel) (pa_cons (pv 0) pa_nil)) (nomark _)) (pw_and1 (pt_cmpR op_inS (pe_ix ix_str (pv 0) (pv 5) (fun _ _ => rfl)) (pe_glob (v := V.str " #-.0123456789:>ABCDEFGHIJKLMNOPQRSTUVWXYZabcdefghijklmnopqrstuvwxyz") (by rfl) (T.k_SIGNS.choose_spec) ⟨_, rfl⟩) rfl))))) (pss_one (ps_aug (i := 5) sc_parts_of.nd rfl (dk rfl) pe_int ip_add))) (pss_cons (ps_if (PW.pt (pw_and (pt_cmpR op_eqS (pv 3) pe_str (nomark _)) (pw_and1 (pt_cmpR op_eqI (pv 5) (pv 2) (nomark _))))) (pss_one (ps_ret pe_non)) pss_nil) (C8.pss_cut (ps_if (pt_cmpR op_eqS (pv 3) pe_str (nomark _)) (pss_one (ps_set (i := 3) sc_parts_of.nd rfl (dk rfl) (pe_slice sl_str (pv 0) (po_some (pv 2)) (po_some (pv 5))))) pss_nil) (pss_cons (ps_expr (pe_bmK (K := K) PySem.F.plainAttrs_list PySem.F.slot_list_append PySem.F.type_list_append mt_append (pv 1) (pa_cons (pv 3) pa_nil))) (pss_one (ps_aug (i := 2) sc_parts_of.nd rfl (dk rfl) (pe_callB cr_lenS (by rfl) T.n_len (by decide +kernel) (pa_cons (pv 3) pa_nil)) ip_add)))))))))) (pss_one (ps_ret (pv 1))))))), ?_⟩
    have S : Sx P0 F0 H0 F0 H0 := Sx.refl0 hE
    unfold m_parts_of at hm
    refine rd_seq ?_
    refine rd_asg ?_
    refine rd_lst ?_
    refine rd_nil ?_
    refine rd_lK rfl ?_
    refine al S (fun p1 H2 np3 c4 w5 => ?_)
    have r6 : Row qS K F0 [] ([] : List Str) := .nil
    have z7 := S.free0 np3
    have S8 := S.call0 c4
    obtain ⟨t9, e10, hm⟩ := bd_some hm
    refine rd_gn ?_
    refine rd_seq ?_
    refine rd_asg ?_
    refine rd_c ?_
    refine rd_gn ?_
    refine rd_seq ?_
    refine rd_whileC e10 (fun (s11 : ((List Str) × Int)) σ H => ∃ (F : Hp) (o3 : Option V) (o4 : Option V) (o5 : Option V) (vs0 : List V), σ = [some (V.str (a_text)), some (V.ref p1), some (V.int (s11.2)), o3, o4, o5] ∧ Sx (fun a => a = p1) F0 H2 F H ∧ Ow (fun a => a = p1) H2 F H p1 (.lst vs0) ∧ Row qS K F vs0 s11.1) ?_ ?_ ?_ ?_
    · skip
      have S12 : Sx (fun a => a = p1) _ _ _ _ := Sx.refl S8.sub (fun a z => by rw [z, w5.at_]; exact (fun h => nomatch h))
      have w13 : Ow (fun a => a = p1) H2 _ _ _ _ := ⟨w5.fr, w5.at_, .inr (rfl)⟩
      exact ⟨F0, _, _, _, _, rfl, S12, w13, r6⟩
    · skip
      rintro s14 b15 σ16 H17 T18 E19 ⟨F23, o25, o26, o27, v28, rfl, S24, w29, r30⟩ hm22 hT20 hE21
      unfold m_parts_of_b1 at hm22
      obtain ⟨g31, hm22⟩ := gd_some hm22
      refine rd_test ?_
      refine rd_op ?_
      refine rd_v rfl ?_
      refine rd_cb ?_
      refine rd_cons ?_
      refine rd_v rfl ?_
      refine rd_nil ?_
      refine rd_lenS g31 ?_
      refine rd_I0 ?_
      refine rd_b ?_
      refine if_j (fun b32 => ?_) (fun b32 => ?_)
      · cases hm22; exact hT20 _ _ b32 ⟨F23, _, _, _, _, rfl, S24, w29, r30⟩
      · cases hm22; exact hE21 _ _ b32 ⟨F23, _, _, _, _, rfl, S24, w29, r30⟩
    · skip
      rintro s33 s34 σ35 H36 ⟨F40, o42, o43, o44, v45, rfl, S41, w46, r47⟩ hm37 hbk38 hrt39
      unfold m_parts_of_b5 at hm37
      have f48 : (qT qS).r K F40 (.ref (He.ga K "FREE_CELLS")) (["<digits>", "<word>", "<any>"] : List Str) := T.q_FREE_CELLS _
      refine rd_seq ?_
      refine rd_asg ?_
      refine rd_c ?_
      refine rd_gn ?_
      refine rd_seq ?_
      refine rd_for ?_
      refine rd_iT ?_
      refine rd_c ?_
      refine rd_wTF S41 f48 (fun p49 vs50 hq51 row52 => ?_)
      obtain ⟨t53, e54, hm37⟩ := bd_some hm37
      refine rd_forS feedsT (typedRow row52) e54 (fun (s55 : Str) σ H => ∃ (F : Hp) (o4 : Option V) (o5 : Option V), σ = [some (V.str (a_text)), some (V.ref p1), some (V.int (s33.2)), some (V.str (s55)), o4, o5] ∧ Sx P0 F40 H36 F H) ?_ ?_ ?_ ?_
      · rintro _ _ _ ⟨_, _, _, _, S56⟩
        exact (same_t S56.sub (same_t S56.le hq51))
      · skip
        have S57 := Sx.refl0 S41.sub
        exact ⟨F40, _, _, rfl, S57⟩
      · skip
        rintro x58 v59 s60 c64 σ61 H62 f63 ⟨F65, o67, o68, rfl, S66⟩ hm71
        have r47 := Row.mono S66.le r47
        have w46 := w46.call0 S66
        unfold m_parts_of_b2 at hm71
        cases (show v59 = (V.str (x58)) from f63)
        refine rd_gn ?_
        refine rd_ifS ?_
        refine rd_tB ?_
        refine rd_bm ?_
        refine rd_v rfl ?_
        refine rd_ty (tyS_str) ?_
        refine rd_cons ?_
        refine rd_v rfl ?_
        refine rd_cons ?_
        refine rd_v rfl ?_
        refine rd_nil ?_
        refine rd_mSSI ?_
        refine rd_b ?_
        refine if_b hm71 (fun b72 hm71 => ?_) (fun b72 hm71 => ?_)
        · skip
          cases hm71
          refine rd_asg ?_
          refine rd_v rfl ?_
          refine rd_gn ?_
          exact ⟨F65, _, _, rfl, S66⟩
        · skip
          cases hm71
          refine rd_next ?_
          exact ⟨F65, _, _, rfl, S66⟩
      · skip
        rintro σ73 H74 ⟨F75, o77, o78, rfl, S76⟩
        have S79 := S41.call0 S76
        have r47 := Row.mono S76.le r47
        have w46 := w46.call0 S76
        obtain ⟨t80, e81, hm37⟩ := bd_some hm37
        refine rd_seq ?_
        refine rd_asg ?_
        refine rd_v rfl ?_
        refine rd_gn ?_
        refine rd_seq ?_
        refine rd_whileS e81 (fun (s82 : Int) σ H => ∃ (F : Hp) (o4 : Option V), σ = [some (V.str (a_text)), some (V.ref p1), some (V.int (s33.2)), some (V.str (t53)), o4, some (V.int (s82))] ∧ Sx P0 F75 H74 F H) ?_ ?_ ?_ ?_
        · skip
          have S83 := Sx.refl0 S79.sub
          exact ⟨F75, _, rfl, S83⟩
        · skip
          rintro s84 b85 σ86 H87 T88 E89 ⟨F93, o95, rfl, S94⟩ hm92 hT90 hE91
          have r47 := Row.mono S94.le r47
          have w46 := w46.call0 S94
          unfold m_parts_of_b3 at hm92
          obtain ⟨t113, e114, hm92⟩ := bd_some hm92
          refine rd_and ?_
          refine rd_test ?_
          refine rd_op ?_
          refine rd_v rfl ?_
          refine rd_c ?_
          refine rd_S0 ?_
          refine rd_b ?_
          refine and_j (fun c H' => c = t113 ∧ ∃ F', Sx P0 F93 H87 F' H') ?_ ?_ ?_
          · intro b115 Q116 q117
            have e114 := if_t e114 b115
            have S118 := Sx.refl0 S94.sub
            obtain ⟨g119, e114⟩ := gd_some e114
            obtain ⟨t122, e123, e114⟩ := bd_some e114
            refine rd_and ?_
            refine rd_test ?_
            refine rd_op ?_
            refine rd_v rfl ?_
            refine rd_cb ?_
            refine rd_cons ?_
            refine rd_v rfl ?_
            refine rd_nil ?_
            refine rd_lenS g119 ?_
            refine rd_I0 ?_
            refine rd_b ?_
            refine and_j (fun c H' => c = t122 ∧ ∃ F', Sx P0 F93 H87 F' H') ?_ ?_ ?_
            · intro b124 Q125 q126
              have e123 := if_t e123 b124
              have S127 := Sx.refl0 S118.sub
              obtain ⟨t128, e129, e123⟩ := bd_some e123
              cases e123
              refine rd_test ?_
              refine rd_op ?_
              refine rd_op ?_
              refine rd_v rfl ?_
              refine rd_v rfl ?_
              refine rd_ixS e129 ?_
              refine rd_c ?_
              refine rd_inSS ?_
              refine rd_b ?_
              exact q126 _ _ ⟨rfl, F93, S127⟩
            · intro b124
              have e123 := if_f e123 b124
              cases e123
              have S130 := Sx.refl0 S118.sub
              exact ⟨rfl, F93, S130⟩
            rintro b134 H132 ⟨rfl, F131, c133⟩
            have S135 := S118.call0 c133
            have r47 := Row.mono c133.le r47
            have w46 := w46.call0 c133
            cases e114
            exact q117 _ _ ⟨rfl, F131, S135⟩
          · intro b115
            have e114 := if_f e114 b115
            cases e114
            have S136 := Sx.refl0 S94.sub
            exact ⟨rfl, F93, S136⟩
          rintro b140 H138 ⟨rfl, F137, c139⟩
          have S141 := S94.call0 c139
          have r47 := Row.mono c139.le r47
          have w46 := w46.call0 c139
          refine if_j (fun b142 => ?_) (fun b142 => ?_)
          · cases hm92; exact hT90 _ _ b142 ⟨F137, _, rfl, S141⟩
          · cases hm92; exact hE91 _ _ b142 ⟨F137, _, rfl, S141⟩
        · skip
          rintro s143 s144 σ145 H146 ⟨F150, o152, rfl, S151⟩ hm147
          have r47 := Row.mono S151.le r47
          have w46 := w46.call0 S151
          unfold m_parts_of_b4 at hm147
          cases hm147
          refine rd_aug rfl ?_
          refine rd_c ?_
          refine rd_ipI ?_
          exact ⟨F150, _, rfl, S151⟩
        · skip
          rintro σ153 H154 ⟨F155, o157, rfl, S156⟩
          have S158 := S79.call0 S156
          have r47 := Row.mono S156.le r47
          have w46 := w46.call0 S156
          refine rd_seq ?_
          refine rd_ifS ?_
          refine rd_and ?_
          refine rd_test ?_
          refine rd_op ?_
          refine rd_v rfl ?_
          refine rd_c ?_
          refine rd_S0 ?_
          refine rd_b ?_
          refine and_p (by intro _ Q' q; refine rd_test ?_; refine rd_op ?_; refine rd_v rfl ?_; refine rd_v rfl ?_; refine rd_I0 ?_; refine rd_b ?_; exact q) ?_
          refine if_b hm37 (fun b159 hm37 => ?_) (fun b159 hm37 => ?_)
          · skip
            have f160 : (qO (qL qS)).r K F155 V.non none := (show (qO (qL qS)).r K F155 V.non none from rfl)
            cases hm37
            have e161 := hrt39 _ rfl
            subst e161
            have hm := aft_rt hm
            have S162 := S8.call1 S158 w5
            have w163 : Ow P0 H0 _ _ _ _ := ⟨w46.fr, w46.at_, w5.mine⟩
            cases hm
            refine rd_ret ?_
            refine rd_c ?_
            exact hQ _ _ _ S162 f160
          · skip
            obtain ⟨t164, e165, hm37⟩ := bd_some hm37
            refine rd_next ?_
            refine rd_cut (fun σ' H' => ∃ (F : Hp) (o4 : Option V), σ' = [some (V.str (a_text)), some (V.ref p1), some (V.int (s33.2)), some (V.str (t164)), o4, some (V.int (t80))] ∧ Sx P0 F155 H154 F H') ?_ ?_
            · skip
              have S166 := Sx.refl0 S158.sub
              refine rd_ifS ?_
              refine rd_test ?_
              refine rd_op ?_
              refine rd_v rfl ?_
              refine rd_c ?_
              refine rd_S0 ?_
              refine rd_b ?_
              refine if_b e165 (fun b167 e165 => ?_) (fun b167 e165 => ?_)
              · skip
                obtain ⟨g168, e165⟩ := gd_some e165
                cases e165
                refine rd_asg ?_
                refine rd_sl ?_
                refine rd_v rfl ?_
                refine rd_pt ?_
                refine rd_v rfl ?_
                refine rd_i ?_
                refine rd_pt ?_
                refine rd_v rfl ?_
                refine rd_i ?_
                refine rd_slS g168 ?_
                refine rd_gn ?_
                exact ⟨F155, _, rfl, S166⟩
              · skip
                cases e165
                refine rd_next ?_
                exact ⟨F155, _, rfl, S166⟩
            · skip
              rintro σ170 H169 ⟨F171, o173, rfl, S172⟩
              have S174 := S158.call0 S172
              have r47 := Row.mono S172.le r47
              have w46 := w46.call0 S172
              obtain ⟨g175, hm37⟩ := gd_some hm37
              refine rd_seq ?_
              refine rd_drop ?_
              refine rd_bm ?_
              refine rd_v rfl ?_
              refine rd_ty w46.ty ?_
              refine rd_cons ?_
              refine rd_v rfl ?_
              refine rd_nil ?_
              refine ap S174 w46 r47 g175 (fun H176 c177 w178 => ?_)
              have r179 := r47.snoc (show qS.r K F171 _ t164 from rfl)
              have S180 := S174.call1 c177 w46
              have r179 := Row.mono c177.le r179
              obtain ⟨g181, hm37⟩ := gd_some hm37
              cases hm37
              refine rd_aug rfl ?_
              refine rd_cb ?_
              refine rd_cons ?_
              refine rd_v rfl ?_
              refine rd_nil ?_
              refine rd_lenS g181 ?_
              refine rd_ipI ?_
              exact ⟨_, rfl, ⟨F171, _, _, _, _, rfl, S180, w178, r179⟩⟩
    · skip
      rintro s184 σ182 H183 e185 ⟨F186, o188, o189, o190, v191, rfl, S187, w192, r193⟩
      subst e185
      have hm := aft_nx hm
      have S194 := S8.call1 S187 w5
      have w195 : Ow P0 H0 _ _ _ _ := ⟨w192.fr, w192.at_, w5.mine⟩
      obtain ⟨F196, S197, le198, f199, _, eq200⟩ := fz S194 w195 z7 r193
      have f201 : (qO (qL qS)).r K F196 (V.ref p1) (some s184.1) := (show (qO (qL qS)).r K F196 (V.ref p1) (some s184.1) from f199)
      cases hm
      refine rd_ret ?_
      refine rd_v rfl ?_
      exact hQ _ _ _ S197 f201
def sp_is_line (K : PySem.W.Frag) : Sp := fun vs H Q _ => ∃ (F : Hp) (v_thing : V) (a_thing : Th) (r : Bool), vs = [v_thing] ∧ Same F H ∧ qTh.r K F v_thing a_thing ∧ m_is_line a_thing = some r ∧ ∀ v F' H', Sx P0 F H F' H' → qB.r K F' v r → Q v H'
theorem sc_is_line : FnScope ["thing", "sign"] ["thing"] (defScope s_is_line) := ⟨rfl, rfl, rfl, by decide +kernel, rfl, by decide +kernel, by decide +kernel⟩
theorem bn_is_line (T : Tx P K mg) : Binds K (fdOf K ("is_line", none)) ["thing"] [] := FunD.bindsN T.F_is_line fun _ _ _ _ _ _ us hl => match us, hl with | [_], _ => rfl
theorem ok_is_line (T : Tx P K mg) : FnOk P w K mg base CX0 1 (He.ga K "is_line") (fdOf K ("is_line", none)) ["thing"] (sp_is_line K) := by
  refine FunD.ok T.F_is_line sc_is_line (fun vs H0 Q E h => ?_) (fun cdv A outer s H0 vs Q E hr h => ?_)
  · obtain ⟨_, _, _, _, rfl, _⟩ := h
    rfl
  · obtain ⟨F0, v_thing, a_thing, r, rfl, hE, f_thing, hm, hQ⟩ := h
    refine ⟨_, PSs.nox ((pss_cons (ps_if (PW.pt (pw_or (pt_not (pt_val (pe_callB (r := rIsi K) call_isi (by rfl) T.n_isinstance (by decide +kernel) (pa_cons (pv 0) (pa_cons (pe_bltn (v := V.ty "str") (by rfl) T.n_str (by decide +kernel) rfl) pa_nil))))) (pw_or1 (pt_cmpR op_eqS (pv 0) pe_str (nomark _))))) (pss_one (ps_ret pe_bl)) pss_nil) (pss_cons (ps_for PassesOwn.never rfl (pi_str (pv 0)) (pg_name (i := 1) sc_is_line.nd rfl (dk rfl)) (pss_one (ps_if (pt_cmpR op_niS (pv 1) (pe_glob (v := V.str " #-.0123456789:>ABCDEFGHIJKLMNOPQRSTUVWXYZabcdefghijklmnopqrstuvwxyz") (by rfl) (T.k_SIGNS.choose_spec) ⟨_, rfl⟩) rfl) (pss_one (ps_ret pe_bl)) pss_nil))) (pss_one (ps_ret pe_bl))))), ?_⟩
    have S : Sx P0 F0 H0 F0 H0 := Sx.refl0 hE
    unfold m_is_line at hm
    obtain ⟨t4, e5, hm⟩ := bd_some hm
    refine rd_seq ?_
    refine rd_ifS ?_
    refine rd_or ?_
    refine rd_not ?_
    refine rd_tB ?_
    refine rd_cb ?_
    refine rd_cons ?_
    refine rd_v rfl ?_
    refine rd_cons ?_
    refine rd_c ?_
    refine rd_nil ?_
    refine rd_isiTh (n := "str") (tx_th S f_thing) (by decide +kernel) ?_
    refine rd_b ?_
    refine or_j (fun c H' => c = t4 ∧ ∃ F', Sx P0 F0 H0 F' H') ?_ ?_ ?_
    · intro b6 Q7 q8
      have e5 := if_f e5 b6
      have S9 := Sx.refl0 S.sub
      obtain ⟨t10, e11, e5⟩ := bd_some e5
      have e12 := thS_fact f_thing e11
      cases e12
      cases e5
      refine rd_test ?_
      refine rd_op ?_
      refine rd_v rfl ?_
      refine rd_c ?_
      refine rd_S0 ?_
      refine rd_b ?_
      exact q8 _ _ ⟨rfl, F0, S9⟩
    · intro b6
      have e5 := if_t e5 b6
      cases e5
      have S13 := Sx.refl0 S.sub
      exact ⟨rfl, F0, S13⟩
    rintro b17 H15 ⟨rfl, F14, c16⟩
    have S18 := S.call0 c16
    have f_thing := qTh.mono c16.le f_thing
    refine if_b hm (fun b19 hm => ?_) (fun b19 hm => ?_)
    · skip
      cases hm
      refine rd_ret ?_
      refine rd_c ?_
      exact hQ _ _ _ S18 rfl
    · skip
      obtain ⟨t20, e21, hm⟩ := bd_some hm
      have e22 := thS_fact f_thing e21
      cases e22
      refine rd_next ?_
      refine rd_seq ?_
      refine rd_for ?_
      refine rd_iS ?_
      refine rd_v rfl ?_
      refine rd_wS ?_
      obtain ⟨t23, e24, hm⟩ := bd_some hm
      refine rd_forC feedsS (typedS (K := K) (F := F14)) e24 (fun (s25 : Unit) σ H => ∃ (F : Hp) (o1 : Option V), σ = [some (V.str (t20)), o1] ∧ Sx P0 F14 H15 F H) ?_ ?_ ?_ ?_
      · intro _ _ _ _; trivial
      · skip
        have S27 := Sx.refl0 S18.sub
        exact ⟨F14, _, rfl, S27⟩
      · skip
        rintro x28 v29 s30 c34 σ31 H32 f33 ⟨F35, o37, rfl, S36⟩ hm40 hbk38 hrt39
        unfold m_is_line_b1 at hm40
        cases (show v29 = (V.str (x28)) from f33)
        refine rd_gn ?_
        refine rd_ifS ?_
        refine rd_test ?_
        refine rd_op ?_
        refine rd_v rfl ?_
        refine rd_c ?_
        refine rd_niSS ?_
        refine rd_b ?_
        refine if_b hm40 (fun b41 hm40 => ?_) (fun b41 hm40 => ?_)
        · skip
          cases hm40
          have e42 := hrt39 _ rfl
          subst e42
          have hm := aft_rt hm
          have S43 := S18.call0 S36
          cases hm
          refine rd_ret ?_
          refine rd_c ?_
          exact hQ _ _ _ S43 rfl
        · skip
          cases hm40
          refine rd_next ?_
          exact ⟨_, rfl, ⟨F35, _, rfl, S36⟩⟩
      · skip
        rintro s46 σ44 H45 e47 ⟨F48, o50, rfl, S49⟩
        subst e47
        have hm := aft_nx hm
        have S51 := S18.call0 S49
        cases hm
        refine rd_ret ?_
        refine rd_c ?_
        exact hQ _ _ _ S51 rfl
def sp_is_allowed (K : PySem.W.Frag) : Sp := fun vs H Q _ => ∃ (F : Hp) (v_parts : V) (a_parts : (List Str)) (a_at : Int) (r : Bool), vs = [v_parts, (V.int (a_at))] ∧ Same F H ∧ (qT qS).r K F v_parts a_parts ∧ m_is_allowed a_parts a_at = some r ∧ ∀ v F' H', Sx P0 F H F' H' → qB.r K F' v r → Q v H'
theorem sc_is_allowed : FnScope ["parts", "at", "part"] ["parts", "at"] (defScope s_is_allowed) := ⟨rfl, rfl, rfl, by decide +kernel, rfl, by decide +kernel, by decide +kernel⟩
theorem bn_is_allowed (T : Tx P K mg) : Binds K (fdOf K ("is_allowed", none)) ["parts", "at"] [] := FunD.bindsN T.F_is_allowed fun _ _ _ _ _ _ us hl => match us, hl with | [_, _], _ => rfl
theorem ok_is_allowed (T : Tx P K mg) : FnOk P w K mg base CX0 2 (He.ga K "is_allowed") (fdOf K ("is_allowed", none)) ["parts", "at"] (sp_is_allowed K) := by
  refine FunD.ok T.F_is_allowed sc_is_allowed (fun vs H0 Q E h => ?_) (fun cdv A outer s H0 vs Q E hr h => ?_)
  · obtain ⟨_, _, _, _, _, rfl, _⟩ := h
    rfl
  · obtain ⟨F0, v_parts, a_parts, a_at, r, rfl, hE, f_parts, hm, hQ⟩ := h
    refine ⟨_, PSs.nox ((pss_cons (ps_set (i := 2) sc_is_allowed.nd rfl (dk rfl) (pe_ix (r := rIxT K) ix_tup (pv 0) (pv 1) (fun _ _ => rfl))) (pss_cons (ps_if (PW.pt (pw_or (pt_cmpR op_ge (pv 1) (pe_glob (v := V.int 4) (by rfl) (T.k_MOST_PARTS.choose_spec) ⟨_, rfl⟩) (nomark _)) (pw_or1 (pt_not (pt_val (pe_callB (r := rIsi K) call_isi (by rfl) T.n_isinstance (by decide +kernel) (pa_cons (pv 2) (pa_cons (pe_bltn (v := V.ty "str") (by rfl) T.n_str (by decide +kernel) rfl) pa_nil)))))))) (pss_one (ps_ret pe_bl)) pss_nil) (pss_cons (ps_if (pt_cmpR op_eqS (pv 2) (pe_glob (v := V.str "<any>") (by rfl) (T.k_ANY_CELL.choose_spec) ⟨_, rfl⟩) (nomark _)) (pss_one (ps_ret (pe_cmpR (r := rIn K true) op_notIn_seq (pe_glob (v := V.str "<any>") (by rfl) (T.k_ANY_CELL.choose_spec) ⟨_, rfl⟩) (pe_slice (r := rSlA K) sl_tupA (pv 0) po_none (po_some (pv 1))) rfl))) pss_nil) (pss_cons (ps_if (pt_cmpR (r := rIn K false) op_in_seq (pv 2) (pe_glob (v := V.ref (He.ga K "FREE_CELLS")) (by rfl) T.g_FREE_CELLS rfl) rfl) (pss_one (ps_ret pe_bl)) pss_nil) (pss_cons (ps_if (PW.pt (pw_and (pt_cmpR op_gt (pv 1) pe_int (nomark _)) (pw_and1 (pt_cmpR (r := rIn K true) op_notIn_seq (pe_ix (r := rIxT K) ix_tup (pv 0) (pe_op op_sub (pv 1) pe_int) (fun _ _ => rfl)) (pe_glob (v := V.ref (He.ga K "FREE_CELLS")) (by rfl) T.g_FREE_CELLS rfl) rfl)))) (pss_one (ps_ret pe_bl)) pss_nil) (pss_one (ps_ret (pe_and (pe_call (ok_is_line T) (hr.mono (by decide)) (by rfl) T.g_is_line T.F_is_line.kp (bn_is_line T) .nil pass0 (pa_cons (pv 2) pa_nil)) (pe_one (pe_cmpR op_le (pe_callB cr_lenS (by rfl) T.n_len (by decide +kernel) (pa_cons (pv 2) pa_nil)) (pe_glob (v := V.int 4) (by rfl) (T.k_MOST_SIGNS.choose_spec) ⟨_, rfl⟩) (nomark _)))))))))))), ?_⟩
    have S : Sx P0 F0 H0 F0 H0 := Sx.refl0 hE
    unfold m_is_allowed at hm
    obtain ⟨t1, e2, hm⟩ := bd_some hm
    refine rd_seq ?_
    refine rd_asg ?_
    refine rd_op ?_
    refine rd_v rfl ?_
    refine rd_v rfl ?_
    refine rd_ixT (S.t f_parts) e2 (fun u3 f4 => ?_)
    cases (show u3 = (V.str (t1)) from f4)
    refine rd_gn ?_
    refine rd_seq ?_
    refine rd_ifS ?_
    refine rd_or ?_
    refine rd_test ?_
    refine rd_op ?_
    refine rd_v rfl ?_
    refine rd_c ?_
    refine rd_I0 ?_
    refine rd_b ?_
    refine or_p (by intro _ Q' q; refine rd_not ?_; refine rd_tB ?_; refine rd_cb ?_; refine rd_cons ?_; refine rd_v rfl ?_; refine rd_cons ?_; refine rd_c ?_; refine rd_nil ?_; refine rd_isi (b := true) tx_str (by decide +kernel) ?_; refine rd_b ?_; exact q) ?_
    refine if_b hm (fun b5 hm => ?_) (fun b5 hm => ?_)
    · skip
      cases hm
      refine rd_ret ?_
      refine rd_c ?_
      exact hQ _ _ _ S rfl
    · skip
      refine rd_next ?_
      refine rd_seq ?_
      refine rd_ifS ?_
      refine rd_test ?_
      refine rd_op ?_
      refine rd_v rfl ?_
      refine rd_c ?_
      refine rd_S0 ?_
      refine rd_b ?_
      refine if_b hm (fun b6 hm => ?_) (fun b6 hm => ?_)
      · skip
        refine rd_ret ?_
        refine rd_op ?_
        refine rd_c ?_
        refine rd_sl ?_
        refine rd_v rfl ?_
        refine rd_np ?_
        refine rd_pt ?_
        refine rd_v rfl ?_
        refine rd_i ?_
        refine rd_slA S f_parts (fun v7 F8 H9 c10 f11 => ?_)
        have S12 := S.call0 c10
        have f_parts := (qT qS).mono c10.le f_parts
        cases hm
        refine rd_niS (S12.t f11).q ?_
        exact hQ _ _ _ S12 rfl
      · skip
        have f13 : (qT qS).r K F0 (.ref (He.ga K "FREE_CELLS")) (["<digits>", "<word>", "<any>"] : List Str) := T.q_FREE_CELLS _
        refine rd_next ?_
        refine rd_seq ?_
        refine rd_ifS ?_
        refine rd_test ?_
        refine rd_op ?_
        refine rd_v rfl ?_
        refine rd_c ?_
        refine rd_inS (S.t f13).q ?_
        refine rd_b ?_
        refine if_b hm (fun b14 hm => ?_) (fun b14 hm => ?_)
        · skip
          cases hm
          refine rd_ret ?_
          refine rd_c ?_
          exact hQ _ _ _ S rfl
        · skip
          obtain ⟨t20, e21, hm⟩ := bd_some hm
          refine rd_next ?_
          refine rd_seq ?_
          refine rd_ifS ?_
          refine rd_and ?_
          refine rd_test ?_
          refine rd_op ?_
          refine rd_v rfl ?_
          refine rd_c ?_
          refine rd_I0 ?_
          refine rd_b ?_
          refine and_j (fun c H' => c = t20 ∧ ∃ F', Sx P0 F0 H0 F' H') ?_ ?_ ?_
          · intro b22 Q23 q24
            have e21 := if_t e21 b22
            have S25 := Sx.refl0 S.sub
            obtain ⟨t26, e27, e21⟩ := bd_some e21
            refine rd_test ?_
            refine rd_op ?_
            refine rd_op ?_
            refine rd_v rfl ?_
            refine rd_op ?_
            refine rd_v rfl ?_
            refine rd_c ?_
            refine rd_I0 ?_
            refine rd_ixT (S25.t f_parts) e27 (fun u28 f29 => ?_)
            cases (show u28 = (V.str (t26)) from f29)
            have f30 : (qT qS).r K F0 (.ref (He.ga K "FREE_CELLS")) (["<digits>", "<word>", "<any>"] : List Str) := T.q_FREE_CELLS _
            cases e21
            refine rd_c ?_
            refine rd_niS (S25.t f30).q ?_
            refine rd_b ?_
            exact q24 _ _ ⟨rfl, F0, S25⟩
          · intro b22
            have e21 := if_f e21 b22
            cases e21
            have S31 := Sx.refl0 S.sub
            exact ⟨rfl, F0, S31⟩
          rintro b35 H33 ⟨rfl, F32, c34⟩
          have S36 := S.call0 c34
          have f_parts := (qT qS).mono c34.le f_parts
          refine if_b hm (fun b37 hm => ?_) (fun b37 hm => ?_)
          · skip
            cases hm
            refine rd_ret ?_
            refine rd_c ?_
            exact hQ _ _ _ S36 rfl
          · skip
            have f38 : qTh.r K F32 (V.str (t1)) (Th.d (PyData.str (t1))) := (show qTh.r K F32 _ (Th.d (PyData.str (t1))) from Dp.str _)
            obtain ⟨t39, e40, hm⟩ := bd_some hm
            refine rd_next ?_
            refine rd_ret ?_
            refine rd_andV ?_
            refine rd_call ?_
            refine rd_cons ?_
            refine rd_v rfl ?_
            refine rd_nil ?_
            refine ⟨F32, _, _, t39, rfl, S36.sub, f38, e40, fun v44 F41 H42 c43 f45 => ?_⟩
            have S46 := S36.call0 c43
            have f_parts := (qT qS).mono c43.le f_parts
            cases (show v44 = (V.bl (t39)) from f45)
            obtain ⟨t48, e49, hm⟩ := bd_some hm
            refine rd_b ?_
            refine andV_j (fun c H' => c = V.bl t48 ∧ ∃ F', Sx P0 F41 H42 F' H') ?_ ?_ ?_
            · intro b50 Q51 q52
              have e49 := if_t e49 b50
              have S53 := Sx.refl0 S46.sub
              obtain ⟨g54, e49⟩ := gd_some e49
              cases e49
              refine rd_op ?_
              refine rd_cb ?_
              refine rd_cons ?_
              refine rd_v rfl ?_
              refine rd_nil ?_
              refine rd_lenS g54 ?_
              refine rd_c ?_
              refine rd_I0 ?_
              exact q52 _ _ ⟨rfl, F41, S53⟩
            · intro b50
              have e49 := if_f e49 b50
              cases e49
              have S55 := Sx.refl0 S46.sub
              exact ⟨rfl, F41, S55⟩
            rintro b59 H57 ⟨rfl, F56, c58⟩
            have S60 := S46.call0 c58
            have f_parts := (qT qS).mono c58.le f_parts
            cases hm
            exact hQ _ _ _ S60 rfl
def sp_Form___init__ (K : PySem.W.Frag) : Sp := fun vs H Q _ => ∃ (F : Hp) (p_self : Addr) (dx : Addr) (v_parts : V) (a_parts : (List Str)) (r : (List Str)), vs = [.ref p_self, v_parts] ∧ Same F H ∧ Ow (fun a => a = p_self) H F H p_self (.ins (He.ga K "Form") dx []) ∧ (qT qS).r K F v_parts a_parts ∧ m_Form___init__ a_parts = some r ∧ ∀ (F' H' : Hp) (u0 : V), Sx (fun a => a = p_self) F H F' H' → Ow (fun a => a = p_self) H F' H' p_self (.ins (He.ga K "Form") dx [("pieces", u0)]) → (qT qS).r K F' u0 r → Q .non H'
theorem sc_Form___init__ : FnScope ["self", "parts", "at"] ["self", "parts"] (defScope s_Form___init__) := ⟨rfl, rfl, rfl, by decide +kernel, rfl, by decide +kernel, by decide +kernel⟩
theorem ok_Form___init__ (T : Tx P K mg) : FnR P w K mg base CX0 3 (He.fAd K ("Form", some "__init__")) (starSp 1 (sp_Form___init__ K)) := by
  obtain ⟨oc, od, dV, kV, doc, pm, an, cdv, ct, osl, efd, lk, hcd, hD, _⟩ := T.F_Form___init__.ex
  rw [efd] at lk
  obtain ⟨_, rfl⟩ | ⟨nD, _⟩ := hD
  rotate_left
  · exact absurd rfl nD
  refine StX.fn_star (ps := ["self"]) (pv := "parts") lk hcd sc_Form___init__ StX.cxUp_none (fun us rest hl => StX.bind_star1 (p1 := "self") (pv := "parts") (B := fun us => bindArgs (PySem.W.fnOf _ _ _ _ _ .none kV doc pm an cdv ct) ⟨us, []⟩) (fun a => by rfl) (fun a r rs => by rfl) us rest hl) (fun A outer s H0 vs Q E hr h => ?_)
  · obtain ⟨F0, p_self, dx, v_parts, a_parts, r, rfl, hE, w_self, f_parts, hm, hQ⟩ := h
    refine ⟨_, PSs.nox ((pss_cons (ps_if (pt_cmpR op_eqI (pe_callB (r := rLenQ K) cr_lenQ (by rfl) T.n_len (by decide +kernel) (pa_cons (pv 1) pa_nil)) pe_int (nomark _)) (pss_one ps_dead) pss_nil) (pss_cons (ps_for PassesOwn.never rfl (pi_range1 (by rfl) T.n_range (pa_cons (pe_callB (r := rLenQ K) cr_lenQ (by rfl) T.n_len (by decide +kernel) (pa_cons (pv 1) pa_nil)) pa_nil)) (pg_name (i := 2) sc_Form___init__.nd rfl (dk rfl)) (pss_one (ps_if (pt_not (pt_val (pe_call (ok_is_allowed T) (hr.mono (by decide)) (by rfl) T.g_is_allowed T.F_is_allowed.kp (bn_is_allowed T) .nil pass0 (pa_cons (pv 1) (pa_cons (pv 2) pa_nil))))) (pss_one ps_dead) pss_nil))) (pss_one (ps_fld (pv 0) (pv 1) rfl))))), ?_⟩
    have S : Sx (fun a => a = p_self) F0 H0 F0 H0 := Sx.refl hE (live1 w_self)
    unfold m_Form___init__ at hm
    refine rd_seq ?_
    refine rd_ifS ?_
    refine rd_test ?_
    refine rd_op ?_
    refine rd_cb ?_
    refine rd_cons ?_
    refine rd_v rfl ?_
    refine rd_nil ?_
    refine rd_lenQ (S.t f_parts).q ?_
    refine rd_c ?_
    refine rd_I0 ?_
    refine rd_b ?_
    refine if_b hm (fun b1 hm => ?_) (fun b1 hm => ?_)
    · skip
      cases hm
    · skip
      obtain ⟨g2, hm⟩ := gd_some hm
      refine rd_next ?_
      refine rd_seq ?_
      refine rd_for ?_
      refine rd_iR1 ?_
      refine rd_cons ?_
      refine rd_cb ?_
      refine rd_cons ?_
      refine rd_v rfl ?_
      refine rd_nil ?_
      refine rd_lenQ (S.t f_parts).q ?_
      refine rd_nil ?_
      refine rd_r1 g2 ?_
      obtain ⟨t3, e4, hm⟩ := bd_some hm
      refine rd_forS feedsRg (typedR (K := K) (F := F0)) e4 (fun (s5 : Unit) σ H => ∃ (F : Hp) (o2 : Option V), σ = [some (V.ref p_self), some v_parts, o2] ∧ Sx P0 F0 H0 F H) ?_ ?_ ?_ ?_
      · intro _ _ _ _; trivial
      · skip
        have S7 := Sx.refl0 S.sub
        exact ⟨F0, _, rfl, S7⟩
      · skip
        rintro x8 v9 s10 c14 σ11 H12 f13 ⟨F15, o17, rfl, S16⟩ hm20
        have f_parts := (qT qS).mono S16.le f_parts
        have w_self := w_self.call0 S16
        unfold m_Form___init___b1 at hm20
        cases (show v9 = (V.int (x8)) from f13)
        obtain ⟨t21, e22, hm20⟩ := bd_some hm20
        refine rd_gn ?_
        refine rd_ifS ?_
        refine rd_not ?_
        refine rd_tB ?_
        refine rd_call ?_
        refine rd_cons ?_
        refine rd_v rfl ?_
        refine rd_cons ?_
        refine rd_v rfl ?_
        refine rd_nil ?_
        refine ⟨F15, _, _, _, t21, rfl, S16.sub, f_parts, e22, fun v26 F23 H24 c25 f27 => ?_⟩
        have S28 := S16.call0 c25
        have f_parts := (qT qS).mono c25.le f_parts
        have w_self := w_self.call0 c25
        cases (show v26 = (V.bl (t21)) from f27)
        refine rd_b ?_
        refine if_b hm20 (fun b29 hm20 => ?_) (fun b29 hm20 => ?_)
        · skip
          cases hm20
        · skip
          cases hm20
          refine rd_next ?_
          exact ⟨F23, _, rfl, S28⟩
      · skip
        rintro σ30 H31 ⟨F32, o34, rfl, S33⟩
        have S35 := S.call0 S33
        have f_parts := (qT qS).mono S33.le f_parts
        have w_self := w_self.call0 S33
        refine rd_sfld ?_
        refine rd_v rfl ?_
        refine rd_v rfl ?_
        refine fset (fs' := [("pieces", v_parts)]) S35 w_self T.c_Form T.na_Form_pieces (by rfl) (by rfl) (fun H36 c37 w38 => ?_)
        have f39 : (qT qS).r K F32 v_parts a_parts := f_parts
        have S40 := S35.call1 c37 w_self
        have f_parts := (qT qS).mono c37.le f_parts
        have f39 := (qT qS).mono c37.le f39
        cases hm
        exact hQ _ _ v_parts S40 w38 f39
theorem new_Form {P0' : Addr → Prop} {F0 H0 F H : Hp} {Q : VK} {E : XK} {vs : List V} {xs : List Str} {r : (List Str)} (S : Sx P0' F0 H0 F H) (row : Row qS K F vs xs) (hl : Nat.ble vs.length 900 = true) (hm : m_Form___init__ xs = some r) (k : ∀ v F' H', Sx P0 F H F' H' → qForm.r K F' v r → Q v H') : mkK (He.ga K "Form") (starSp 1 (sp_Form___init__ K)) E Q vs H := by
  refine mk_star S row hl fun x dx v F1 H1 hx c1 w rv => ?_
  refine ⟨F1, x, dx, v, xs, r, rfl, c1.sub, w, rv, hm, fun F' H' u0 c w' k0 => ⟨rfl, ?_⟩⟩
  obtain ⟨F2, S2, le, h3⟩ := fzI c1 hx c w'
  exact k _ F2 H' S2 ⟨x, dx, u0, rfl, h3, (qT qS).mono le k0⟩
def sp_Form___init___vx (K : PySem.W.Frag) : Sp := fun vs H Q E => ∃ (F : Hp) (p_self : Addr) (dx : Addr) (v_parts : V) (a_parts : (List Str)) (rr : (Except (Option Int) (List Str))), vs = [.ref p_self, v_parts] ∧ Same F H ∧ Ow (fun a => a = p_self) H F H p_self (.ins (He.ga K "Form") dx []) ∧ (qT qS).r K F v_parts a_parts ∧ m_Form___init___vx a_parts = some rr ∧ (∀ r, rr = .ok r → ∀ (F' H' : Hp) (u0 : V), Sx (fun a => a = p_self) F H F' H' → Ow (fun a => a = p_self) H F' H' p_self (.ins (He.ga K "Form") dx [("pieces", u0)]) → (qT qS).r K F' u0 r → Q .non H') ∧ (∀ e cls d F' H', rr = .error e → Sx (fun a => a = p_self) F H F' H' → ErrAt K H' "NoForm" ["at"] [ovI e] cls d → E cls d H')
theorem sc_Form___init___vx : FnScope ["self", "parts", "at"] ["self", "parts"] (defScope s_Form___init__) := ⟨rfl, rfl, rfl, by decide +kernel, rfl, by decide +kernel, by decide +kernel⟩
theorem ok_Form___init___vx (T : Tx P K mg) : FnR P w K mg base (L2N.CX P w) 3 (He.fAd K ("Form", some "__init__")) (starSp 1 (sp_Form___init___vx K)) := by
  obtain ⟨oc, od, dV, kV, doc, pm, an, cdv, ct, osl, efd, lk, hcd, hD, _⟩ := T.F_Form___init__.ex
  rw [efd] at lk
  obtain ⟨_, rfl⟩ | ⟨nD, _⟩ := hD
  rotate_left
  · exact absurd rfl nD
  refine StX.fn_star (ps := ["self"]) (pv := "parts") lk hcd sc_Form___init___vx cxUpN (fun us rest hl => StX.bind_star1 (p1 := "self") (pv := "parts") (B := fun us => bindArgs (PySem.W.fnOf _ _ _ _ _ .none kV doc pm an cdv ct) ⟨us, []⟩) (fun a => by rfl) (fun a r rs => by rfl) us rest hl) (fun A outer s H0 vs Q E hr h => ?_)
  · obtain ⟨F0, p_self, dx, v_parts, a_parts, rr, rfl, hE, w_self, f_parts, hm, hQ, hX⟩ := h
    refine ⟨_, (pss_cons (ps_if (pt_cmpR op_eqI (pe_callB (r := rLenQ K) cr_lenQ (by rfl) T.n_len (by decide +kernel) (pa_cons (pv 1) pa_nil)) pe_int (nomark _)) (pss_one (ps_rzN (pmk_errN (k := 0) T.er_NoForm.c is_NoForm T.er_NoForm.no T.er_NoForm.g T.er_NoForm.k (room_h (hr.mono (by decide))) (by rfl) (pa_cons pe_non pa_nil)).n)) pss_nil) (pss_cons (ps_for owns_cxN rfl (pi_range1 (by rfl) T.n_range (pa_cons (pe_callB (r := rLenQ K) cr_lenQ (by rfl) T.n_len (by decide +kernel) (pa_cons (pv 1) pa_nil)) pa_nil)) (pg_name (i := 2) sc_Form___init___vx.nd rfl (dk rfl)) (pss_one (ps_if (pt_not (pt_val (pe_call (ok_is_allowed T) (hr.mono (by decide)) (by rfl) T.g_is_allowed T.F_is_allowed.kp (bn_is_allowed T) .nil pass0 (pa_cons (pv 1) (pa_cons (pv 2) pa_nil))))) (pss_one (ps_rzN (pmk_errN (k := 0) T.er_NoForm.c is_NoForm T.er_NoForm.no T.er_NoForm.g T.er_NoForm.k (room_h (hr.mono (by decide))) (by rfl) (pa_cons (pv 2) pa_nil)).n)) pss_nil))) (pss_one (ps_fld (pv 0) (pv 1) rfl)))), ?_⟩
    have S : Sx (fun a => a = p_self) F0 H0 F0 H0 := Sx.refl hE (live1 w_self)
    unfold m_Form___init___vx at hm
    refine rd_seq ?_
    refine rd_ifS ?_
    refine rd_test ?_
    refine rd_op ?_
    refine rd_cb ?_
    refine rd_cons ?_
    refine rd_v rfl ?_
    refine rd_nil ?_
    refine rd_lenQ (S.t f_parts).q ?_
    refine rd_c ?_
    refine rd_I0 ?_
    refine rd_b ?_
    refine if_b hm (fun b1 hm => ?_) (fun b1 hm => ?_)
    · skip
      cases hm
      refine rd_rz ?_
      refine rd_cons ?_
      refine rd_c ?_
      refine rd_nil ?_
      exact rd_eK (xs := [ovI ((none) : (Option Int))]) S rfl rfl fun cls d H1 c er => hX _ _ _ _ _ rfl c er
    · skip
      obtain ⟨g2, hm⟩ := gd_some hm
      refine rd_next ?_
      refine rd_seq ?_
      refine rd_for ?_
      refine rd_iR1 ?_
      refine rd_cons ?_
      refine rd_cb ?_
      refine rd_cons ?_
      refine rd_v rfl ?_
      refine rd_nil ?_
      refine rd_lenQ (S.t f_parts).q ?_
      refine rd_nil ?_
      refine rd_r1 g2 ?_
      obtain ⟨t3, e4, hm⟩ := bd_some hm
      refine rd_forC feedsRg (typedR (K := K) (F := F0)) e4 (fun (s5 : Unit) σ H => ∃ (F : Hp) (o2 : Option V), σ = [some (V.ref p_self), some v_parts, o2] ∧ Sx P0 F0 H0 F H) ?_ ?_ ?_ ?_
      · intro _ _ _ _; trivial
      · skip
        have S7 := Sx.refl0 S.sub
        exact ⟨F0, _, rfl, S7⟩
      · skip
        rintro x8 v9 s10 c14 σ11 H12 f13 ⟨F15, o17, rfl, S16⟩ hm20 hbk18 hrt19
        have f_parts := (qT qS).mono S16.le f_parts
        have w_self := w_self.call0 S16
        unfold m_Form___init___vx_b1 at hm20
        cases (show v9 = (V.int (x8)) from f13)
        obtain ⟨t21, e22, hm20⟩ := bd_some hm20
        refine rd_gn ?_
        refine rd_ifS ?_
        refine rd_not ?_
        refine rd_tB ?_
        refine rd_call ?_
        refine rd_cons ?_
        refine rd_v rfl ?_
        refine rd_cons ?_
        refine rd_v rfl ?_
        refine rd_nil ?_
        refine ⟨F15, _, _, _, t21, rfl, S16.sub, f_parts, e22, fun v26 F23 H24 c25 f27 => ?_⟩
        have S28 := S16.call0 c25
        have f_parts := (qT qS).mono c25.le f_parts
        have w_self := w_self.call0 c25
        cases (show v26 = (V.bl (t21)) from f27)
        refine rd_b ?_
        refine if_b hm20 (fun b29 hm20 => ?_) (fun b29 hm20 => ?_)
        · skip
          cases hm20
          have e30 := hrt19 _ rfl
          subst e30
          have hm := aft_rt hm
          have S31 := S.call0 S28
          cases hm
          refine rd_rz ?_
          refine rd_cons ?_
          refine rd_v rfl ?_
          refine rd_nil ?_
          exact rd_eK (xs := [ovI (((some x8)) : (Option Int))]) S31 rfl rfl fun cls d H1 c er => hX _ _ _ _ _ rfl c er
        · skip
          cases hm20
          refine rd_next ?_
          exact ⟨_, rfl, ⟨F23, _, rfl, S28⟩⟩
      · skip
        rintro s34 σ32 H33 e35 ⟨F36, o38, rfl, S37⟩
        subst e35
        have hm := aft_nx hm
        have S39 := S.call0 S37
        have f_parts := (qT qS).mono S37.le f_parts
        have w_self := w_self.call0 S37
        refine rd_sfld ?_
        refine rd_v rfl ?_
        refine rd_v rfl ?_
        refine fset (fs' := [("pieces", v_parts)]) S39 w_self T.c_Form T.na_Form_pieces (by rfl) (by rfl) (fun H40 c41 w42 => ?_)
        have f43 : (qT qS).r K F36 v_parts a_parts := f_parts
        have S44 := S39.call1 c41 w_self
        have f_parts := (qT qS).mono c41.le f_parts
        have f43 := (qT qS).mono c41.le f43
        cases hm
        exact hQ _ rfl _ _ v_parts S44 w42 f43
theorem newx_Form {P0' : Addr → Prop} {F0 H0 F H : Hp} {Q : VK} {E : XK} {vs : List V} {xs : List Str} {rr : (Except (Option Int) (List Str))} (S : Sx P0' F0 H0 F H) (row : Row qS K F vs xs) (hl : Nat.ble vs.length 900 = true) (hm : m_Form___init___vx xs = some rr) (k : ∀ r, rr = .ok r → ∀ v F' H', Sx P0 F H F' H' → qForm.r K F' v r → Q v H') (kx : ∀ e cls d F' H', rr = .error e → Sx P0 F H F' H' → ErrAt K H' "NoForm" ["at"] [ovI e] cls d → E cls d H') : mkK (He.ga K "Form") (starSp 1 (sp_Form___init___vx K)) E Q vs H := by
  refine mk_star S row hl fun x dx v F1 H1 hx c1 w rv => ?_
  refine ⟨F1, x, dx, v, xs, rr, rfl, c1.sub, w, rv, hm, fun r er F' H' u0 c w' k0 => ⟨rfl, ?_⟩, fun e cls d F' H' ee c ea => kx e cls d F' H' ee (c1.call c fun a z => .inr (by rw [z]; exact hx)) ea⟩
  obtain ⟨F2, S2, le, h3⟩ := fzI c1 hx c w'
  exact k r er _ F2 H' S2 ⟨x, dx, u0, rfl, h3, (qT qS).mono le k0⟩
def sp_pattern_of (n : Nat) (K : PySem.W.Frag) : Sp := fun vs H Q _ => ∃ (F : Hp) (a_text : Str) (a_whole : Str) (r : Pat), vs = [(V.str (a_text)), (V.str (a_whole))] ∧ Same F H ∧ m_pattern_of n a_text a_whole = some r ∧ ∀ v F' H', Sx P0 F H F' H' → qPat.r K F' v r → Q v H'
theorem sc_pattern_of : FnScope ["text", "whole", "parts", "inner", "middle", "one", "other"] ["text", "whole"] (defScope s_pattern_of) := ⟨rfl, rfl, rfl, by decide +kernel, rfl, by decide +kernel, by decide +kernel⟩
theorem bn_pattern_of (T : Tx P K mg) : Binds K (fdOf K ("pattern_of", none)) ["text", "whole"] [] := FunD.bindsN T.F_pattern_of fun _ _ _ _ _ _ us hl => match us, hl with | [_, _], _ => rfl
theorem ok_pattern_of (T : Tx P K mg) : ∀ n : Nat, FnOk P w K mg base CX0 (n + 7 + 1) (He.ga K "pattern_of") (fdOf K ("pattern_of", none)) ["text", "whole"] (sp_pattern_of n K) := by
  intro n
  induction n with
  | zero =>
    refine FunD.ok T.F_pattern_of sc_pattern_of (fun vs H0 Q E h => ?_) (fun cdv A outer s H0 vs Q E hr h => ?_)
    · obtain ⟨_, _, _, _, rfl, _⟩ := h
      rfl
    · obtain ⟨F0, a_text, a_whole, r, rfl, hE, hm, hQ⟩ := h
      unfold m_pattern_of at hm
      cases hm
  | succ n ih =>
    refine FunD.ok T.F_pattern_of sc_pattern_of (fun vs H0 Q E h => ?_) (fun cdv A outer s H0 vs Q E hr h => ?_)
    · obtain ⟨_, _, _, _, rfl, _⟩ := h
      rfl
    · obtain ⟨F0, a_text, a_whole, r, rfl, hE, hm, hQ⟩ := h
      refine ⟨_, PSs.nox ((pss_cons (ps_if (pt_not (pt_val (pe_bmK (K := K) PySem.F.plainAttrs_str PySem.F.slot_str_startswith PySem.F.type_str_startswith mt_startswith (pv 0) (pa_cons pe_str pa_nil)))) (pss_cons (ps_set (i := 2) sc_pattern_of.nd rfl (dk rfl) (pe_call (ok_parts_of T) (hr.mono (by omega)) (by rfl) T.g_parts_of T.F_parts_of.kp (bn_parts_of T) .nil pass0 (pa_cons (pv 0) pa_nil))) (pss_cons (ps_if (pt_cmpR op_isN' (pv 2) pe_non (nomark _)) (pss_one ps_dead) pss_nil) (pss_one (ps_ret (pe_makeRSK (K := K) T.mk_Form (ok_Form___init__ T) (hr.mono (by omega)) (by rfl) T.gc_Form pass0 (pv 2)))))) pss_nil) (pss_cons (ps_set (i := 3) sc_pattern_of.nd rfl (dk rfl) (pe_slice sl_str (pv 0) (po_some pe_int) (po_some (pe_un un_neg pe_int)))) (pss_cons (ps_set (i := 4) sc_pattern_of.nd rfl (dk rfl) (pe_call (ok_middle_of T) (hr.mono (by omega)) (by rfl) T.g_middle_of T.F_middle_of.kp (bn_middle_of T) .nil pass0 (pa_cons (pv 3) pa_nil))) (pss_cons (ps_if (PW.pt (pw_or (pt_not (pt_val (pe_bmK (K := K) PySem.F.plainAttrs_str PySem.F.slot_str_endswith PySem.F.type_str_endswith mt_endswith (pv 0) (pa_cons pe_str pa_nil)))) (pw_or1 (pt_cmpR op_isN' (pv 4) pe_non (nomark _))))) (pss_one ps_dead) pss_nil) (pss_cons (ps_if (PW.pt (pw_or (pt_cmpR op_neS (pe_slice sl_str (pe_slice sl_str (pv 3) po_none (po_some (pv 4))) (po_some (pe_un un_neg pe_int)) po_none) pe_str (nomark _)) (pw_or1 (pt_cmpR op_neS (pe_slice sl_str (pv 3) (po_some (pe_op op_add (pv 4) pe_int)) (po_some (pe_op op_add (pv 4) pe_int))) pe_str (nomark _))))) (pss_one ps_dead) pss_nil) (pss_cons (ps_set (i := 5) sc_pattern_of.nd rfl (dk rfl) (pe_call ih (hr.mono (by omega)) (by rfl) T.g_pattern_of T.F_pattern_of.kp (bn_pattern_of T) .nil pass0 (pa_cons (pe_slice sl_str (pv 3) po_none (po_some (pe_op op_sub (pv 4) pe_int))) (pa_cons (pv 1) pa_nil)))) (pss_cons (ps_set (i := 6) sc_pattern_of.nd rfl (dk rfl) (pe_call ih (hr.mono (by omega)) (by rfl) T.g_pattern_of T.F_pattern_of.kp (bn_pattern_of T) .nil pass0 (pa_cons (pe_slice sl_str (pv 3) (po_some (pe_op op_add (pv 4) pe_int)) po_none) (pa_cons (pv 1) pa_nil)))) (pss_one (ps_ret (pe_ifExp (pt_cmpR op_eqS (pe_ix ix_str (pv 3) (pv 4) (fun _ _ => rfl)) pe_str (nomark _)) (pe_op (r := rBinO K "and" _ (sp_Pattern___and__ K) _) (op_binO (op := .BitAnd) (ok_Pattern___and__ T) (hr.mono (by omega)) (bn_Pattern___and__ T) pass0) (pv 5) (pv 6)) (pe_op (r := rBinO K "or" _ (sp_Pattern___or__ K) _) (op_binO (op := .BitOr) (ok_Pattern___or__ T) (hr.mono (by omega)) (bn_Pattern___or__ T) pass0) (pv 5) (pv 6))))))))))))), ?_⟩
      have S : Sx P0 F0 H0 F0 H0 := Sx.refl0 hE
      unfold m_pattern_of at hm
      refine rd_seq ?_
      refine rd_ifS ?_
      refine rd_not ?_
      refine rd_tB ?_
      refine rd_bm ?_
      refine rd_v rfl ?_
      refine rd_ty (tyS_str) ?_
      refine rd_cons ?_
      refine rd_c ?_
      refine rd_nil ?_
      refine rd_mSS ?_
      refine rd_b ?_
      refine if_b hm (fun b1 hm => ?_) (fun b1 hm => ?_)
      · skip
        obtain ⟨t2, e3, hm⟩ := bd_some hm
        refine rd_seq ?_
        refine rd_asg ?_
        refine rd_call ?_
        refine rd_cons ?_
        refine rd_v rfl ?_
        refine rd_nil ?_
        refine ⟨F0, _, t2, rfl, S.sub, e3, fun v7 F4 H5 c6 f8 => ?_⟩
        have S9 := S.call0 c6
        refine rd_gn ?_
        refine rd_seq ?_
        refine rd_ifS ?_
        refine rd_test ?_
        refine rd_op ?_
        refine rd_v rfl ?_
        refine rd_c ?_
        refine rd_isN (A := (qL qS)) f8 ?_
        refine rd_b ?_
        refine if_b hm (fun b10 hm => ?_) (fun b10 hm => ?_)
        · skip
          cases hm
        · skip
          obtain ⟨t11, e12, hm⟩ := bd_some hm
          have f13 := qO_some f8 e12
          refine rd_next ?_
          refine rd_ret ?_
          refine rd_makeRS ?_
          refine rd_v rfl ?_
          refine rd_st1 S9 f13 (fun vs14 row15 hl16 => ?_)
          obtain ⟨g17, hm⟩ := gd_some hm
          obtain ⟨t18, e19, hm⟩ := bd_some hm
          refine new_Form S9 row15 (by rw [hl16]; exact g17) e19 (fun v20 F21 H22 c23 f24 => ?_)
          have S25 := S9.call0 c23
          have f13 := (qL qS).mono c23.le f13
          have f26 : qPat.r K F21 v20 (Pat.form t18) := (show qPat.r K F21 v20 _ from f24)
          cases hm
          exact hQ _ _ _ S25 f26
      · skip
        obtain ⟨g27, hm⟩ := gd_some hm
        obtain ⟨t28, e29, hm⟩ := bd_some hm
        refine rd_next ?_
        refine rd_seq ?_
        refine rd_asg ?_
        refine rd_sl ?_
        refine rd_v rfl ?_
        refine rd_pt ?_
        refine rd_c ?_
        refine rd_i ?_
        refine rd_pt ?_
        refine rd_un ?_
        refine rd_c ?_
        refine rd_U ?_
        refine rd_i ?_
        refine rd_slS g27 ?_
        refine rd_gn ?_
        refine rd_seq ?_
        refine rd_asg ?_
        refine rd_call ?_
        refine rd_cons ?_
        refine rd_v rfl ?_
        refine rd_nil ?_
        refine ⟨F0, _, t28, rfl, S.sub, e29, fun v33 F30 H31 c32 f34 => ?_⟩
        have S35 := S.call0 c32
        refine rd_gn ?_
        refine rd_seq ?_
        refine rd_ifS ?_
        refine rd_or ?_
        refine rd_not ?_
        refine rd_tB ?_
        refine rd_bm ?_
        refine rd_v rfl ?_
        refine rd_ty (tyS_str) ?_
        refine rd_cons ?_
        refine rd_c ?_
        refine rd_nil ?_
        refine rd_mSS ?_
        refine rd_b ?_
        refine or_p (by intro _ Q' q; refine rd_test ?_; refine rd_op ?_; refine rd_v rfl ?_; refine rd_c ?_; refine rd_isN (A := qI) f34 ?_; refine rd_b ?_; exact q) ?_
        refine if_b hm (fun b36 hm => ?_) (fun b36 hm => ?_)
        · skip
          cases hm
        · skip
          obtain ⟨t37, e38, hm⟩ := bd_some hm
          have f39 := qO_some f34 e38
          cases (show v33 = (V.int (t37)) from f39)
          obtain ⟨g40, hm⟩ := gd_some hm
          obtain ⟨g41, hm⟩ := gd_some hm
          obtain ⟨t43, e44, hm⟩ := bd_some hm
          refine rd_next ?_
          refine rd_seq ?_
          refine rd_ifS ?_
          refine rd_or ?_
          refine rd_test ?_
          refine rd_op ?_
          refine rd_sl ?_
          refine rd_sl ?_
          refine rd_v rfl ?_
          refine rd_np ?_
          refine rd_pt ?_
          refine rd_v rfl ?_
          refine rd_i ?_
          refine rd_slS g40 ?_
          refine rd_pt ?_
          refine rd_un ?_
          refine rd_c ?_
          refine rd_U ?_
          refine rd_i ?_
          refine rd_np ?_
          refine rd_slS g41 ?_
          refine rd_c ?_
          refine rd_S0 ?_
          refine rd_b ?_
          refine or_j (fun c H' => c = t43 ∧ ∃ F', Sx P0 F30 H31 F' H') ?_ ?_ ?_
          · intro b45 Q46 q47
            have e44 := if_f e44 b45
            have S48 := Sx.refl0 S35.sub
            obtain ⟨g49, e44⟩ := gd_some e44
            cases e44
            refine rd_test ?_
            refine rd_op ?_
            refine rd_sl ?_
            refine rd_v rfl ?_
            refine rd_pt ?_
            refine rd_op ?_
            refine rd_v rfl ?_
            refine rd_c ?_
            refine rd_I0 ?_
            refine rd_i ?_
            refine rd_pt ?_
            refine rd_op ?_
            refine rd_v rfl ?_
            refine rd_c ?_
            refine rd_I0 ?_
            refine rd_i ?_
            refine rd_slS g49 ?_
            refine rd_c ?_
            refine rd_S0 ?_
            refine rd_b ?_
            exact q47 _ _ ⟨rfl, F30, S48⟩
          · intro b45
            have e44 := if_t e44 b45
            cases e44
            have S50 := Sx.refl0 S35.sub
            exact ⟨rfl, F30, S50⟩
          rintro b54 H52 ⟨rfl, F51, c53⟩
          have S55 := S35.call0 c53
          refine if_b hm (fun b56 hm => ?_) (fun b56 hm => ?_)
          · skip
            cases hm
          · skip
            obtain ⟨g57, hm⟩ := gd_some hm
            obtain ⟨t58, e59, hm⟩ := bd_some hm
            refine rd_next ?_
            refine rd_seq ?_
            refine rd_asg ?_
            refine rd_call ?_
            refine rd_cons ?_
            refine rd_sl ?_
            refine rd_v rfl ?_
            refine rd_np ?_
            refine rd_pt ?_
            refine rd_op ?_
            refine rd_v rfl ?_
            refine rd_c ?_
            refine rd_I0 ?_
            refine rd_i ?_
            refine rd_slS g57 ?_
            refine rd_cons ?_
            refine rd_v rfl ?_
            refine rd_nil ?_
            refine ⟨F51, _, _, t58, rfl, S55.sub, e59, fun v63 F60 H61 c62 f64 => ?_⟩
            have S65 := S55.call0 c62
            obtain ⟨g66, hm⟩ := gd_some hm
            obtain ⟨t67, e68, hm⟩ := bd_some hm
            refine rd_gn ?_
            refine rd_seq ?_
            refine rd_asg ?_
            refine rd_call ?_
            refine rd_cons ?_
            refine rd_sl ?_
            refine rd_v rfl ?_
            refine rd_pt ?_
            refine rd_op ?_
            refine rd_v rfl ?_
            refine rd_c ?_
            refine rd_I0 ?_
            refine rd_i ?_
            refine rd_np ?_
            refine rd_slS g66 ?_
            refine rd_cons ?_
            refine rd_v rfl ?_
            refine rd_nil ?_
            refine ⟨F60, _, _, t67, rfl, S65.sub, e68, fun v72 F69 H70 c71 f73 => ?_⟩
            have S74 := S65.call0 c71
            have f64 := qPat.mono c71.le f64
            obtain ⟨t75, e76, hm⟩ := bd_some hm
            obtain ⟨t77, e78, hm⟩ := bd_some hm
            refine rd_gn ?_
            refine rd_ret ?_
            refine rd_ifE ?_
            refine rd_test ?_
            refine rd_op ?_
            refine rd_op ?_
            refine rd_v rfl ?_
            refine rd_v rfl ?_
            refine rd_ixS e76 ?_
            refine rd_c ?_
            refine rd_S0 ?_
            refine rd_b ?_
            refine ifE_j (fun c H' => ∃ F', qPat.r K F' c t77 ∧ Sx P0 F69 H70 F' H') ?_ ?_ ?_
            · intro b79 Q80 q81
              have hm82 := if_t e78 b79
              have S83 := Sx.refl0 S74.sub
              obtain ⟨t84, e85, hm82⟩ := bd_some hm82
              refine rd_op ?_
              refine rd_v rfl ?_
              refine rd_v rfl ?_
              refine pat_and T.pf S83 f64 f73 ?_
              refine ⟨F69, _, _, _, _, t84, rfl, S83.sub, f64, f73, e85, fun v89 F86 H87 c88 f90 => ?_⟩
              have S91 := S83.call0 c88
              have f64 := qPat.mono c88.le f64
              have f73 := qPat.mono c88.le f73
              cases hm82
              exact q81 _ _ ⟨F86, f90, S91⟩
            · intro b92 Q93 q94
              have hm95 := if_f e78 b92
              have S96 := Sx.refl0 S74.sub
              obtain ⟨t97, e98, hm95⟩ := bd_some hm95
              refine rd_op ?_
              refine rd_v rfl ?_
              refine rd_v rfl ?_
              refine pat_or T.pf S96 f64 f73 ?_
              refine ⟨F69, _, _, _, _, t97, rfl, S96.sub, f64, f73, e98, fun v102 F99 H100 c101 f103 => ?_⟩
              have S104 := S96.call0 c101
              have f64 := qPat.mono c101.le f64
              have f73 := qPat.mono c101.le f73
              cases hm95
              exact q94 _ _ ⟨F99, f103, S104⟩
            rintro v108 H106 ⟨F105, f109, c107⟩
            have S110 := S74.call0 c107
            have f64 := qPat.mono c107.le f64
            have f73 := qPat.mono c107.le f73
            cases hm
            exact hQ _ _ _ S110 f109
def sp_pattern_of_vx (n : Nat) (K : PySem.W.Frag) : Sp := fun vs H Q E => ∃ (F : Hp) (a_text : Str) (a_whole : Str) (rr : (Except (Str ⊕ (Option Int)) Pat)), vs = [(V.str (a_text)), (V.str (a_whole))] ∧ Same F H ∧ m_pattern_of_vx n a_text a_whole = some rr ∧ (∀ r, rr = .ok r → ∀ v F' H', Sx P0 F H F' H' → qPat.r K F' v r → Q v H') ∧ (∀ e cls d F' H', rr = .error e → Sx P0 F H F' H' → Sum.elim (fun e9 : Str => ErrAt K H' "NoText" ["text"] [.str e9] cls d) (fun e9 : (Option Int) => ErrAt K H' "NoForm" ["at"] [ovI e9] cls d) e → E cls d H')
theorem sc_pattern_of_vx : FnScope ["text", "whole", "parts", "inner", "middle", "one", "other"] ["text", "whole"] (defScope s_pattern_of) := ⟨rfl, rfl, rfl, by decide +kernel, rfl, by decide +kernel, by decide +kernel⟩
theorem bn_pattern_of_vx (T : Tx P K mg) : Binds K (fdOf K ("pattern_of", none)) ["text", "whole"] [] := FunD.bindsN T.F_pattern_of fun _ _ _ _ _ _ us hl => match us, hl with | [_, _], _ => rfl
theorem ok_pattern_of_vx (T : Tx P K mg) : ∀ n : Nat, FnOk P w K mg base (L2N.CX P w) (n + 7 + 1) (He.ga K "pattern_of") (fdOf K ("pattern_of", none)) ["text", "whole"] (sp_pattern_of_vx n K) := by
  intro n
  induction n with
  | zero =>
    refine FunD.ok T.F_pattern_of sc_pattern_of_vx (fun vs H0 Q E h => ?_) (fun cdv A outer s H0 vs Q E hr h => ?_)
    · obtain ⟨_, _, _, _, rfl, _⟩ := h
      rfl
    · obtain ⟨F0, a_text, a_whole, rr, rfl, hE, hm, hQ, hX⟩ := h
      unfold m_pattern_of_vx at hm
      cases hm
  | succ n ih =>
    refine FunD.ok T.F_pattern_of sc_pattern_of_vx (fun vs H0 Q E h => ?_) (fun cdv A outer s H0 vs Q E hr h => ?_)
    · obtain ⟨_, _, _, _, rfl, _⟩ := h
      rfl
    · obtain ⟨F0, a_text, a_whole, rr, rfl, hE, hm, hQ, hX⟩ := h
      refine ⟨_, (pss_cons (ps_if (pt_not (pt_val (pe_bmK (K := K) PySem.F.plainAttrs_str PySem.F.slot_str_startswith PySem.F.type_str_startswith mt_startswith (pv 0) (pa_cons pe_str pa_nil)))) (pss_cons (ps_set (i := 2) sc_pattern_of_vx.nd rfl (dk rfl) (pe_call (ok_parts_of T) (hr.mono (by omega)) (by rfl) T.g_parts_of T.F_parts_of.kp (bn_parts_of T) .nil pass0 (pa_cons (pv 0) pa_nil))) (pss_cons (ps_if (pt_cmpR op_isN' (pv 2) pe_non (nomark _)) (pss_one (ps_rzN (pmk_errN (k := 0) T.er_NoText.c is_NoText T.er_NoText.no T.er_NoText.g T.er_NoText.k (room_h (hr.mono (by omega))) (by rfl) (pa_cons (pv 1) pa_nil)).n)) pss_nil) (pss_one (ps_ret (pe_makeRSK (K := K) T.mk_Form (ok_Form___init___vx T) (hr.mono (by omega)) (by rfl) T.gc_Form passes_cxN (pv 2)))))) pss_nil) (pss_cons (ps_set (i := 3) sc_pattern_of_vx.nd rfl (dk rfl) (pe_slice sl_str (pv 0) (po_some pe_int) (po_some (pe_un un_neg pe_int)))) (pss_cons (ps_set (i := 4) sc_pattern_of_vx.nd rfl (dk rfl) (pe_call (ok_middle_of T) (hr.mono (by omega)) (by rfl) T.g_middle_of T.F_middle_of.kp (bn_middle_of T) .nil pass0 (pa_cons (pv 3) pa_nil))) (pss_cons (ps_if (PW.pt (pw_or (pt_not (pt_val (pe_bmK (K := K) PySem.F.plainAttrs_str PySem.F.slot_str_endswith PySem.F.type_str_endswith mt_endswith (pv 0) (pa_cons pe_str pa_nil)))) (pw_or1 (pt_cmpR op_isN' (pv 4) pe_non (nomark _))))) (pss_one (ps_rzN (pmk_errN (k := 0) T.er_NoText.c is_NoText T.er_NoText.no T.er_NoText.g T.er_NoText.k (room_h (hr.mono (by omega))) (by rfl) (pa_cons (pv 1) pa_nil)).n)) pss_nil) (pss_cons (ps_if (PW.pt (pw_or (pt_cmpR op_neS (pe_slice sl_str (pe_slice sl_str (pv 3) po_none (po_some (pv 4))) (po_some (pe_un un_neg pe_int)) po_none) pe_str (nomark _)) (pw_or1 (pt_cmpR op_neS (pe_slice sl_str (pv 3) (po_some (pe_op op_add (pv 4) pe_int)) (po_some (pe_op op_add (pv 4) pe_int))) pe_str (nomark _))))) (pss_one (ps_rzN (pmk_errN (k := 0) T.er_NoText.c is_NoText T.er_NoText.no T.er_NoText.g T.er_NoText.k (room_h (hr.mono (by omega))) (by rfl) (pa_cons (pv 1) pa_nil)).n)) pss_nil) (pss_cons (ps_set (i := 5) sc_pattern_of_vx.nd rfl (dk rfl) (pe_call ih (hr.mono (by omega)) (by rfl) T.g_pattern_of T.F_pattern_of.kp (bn_pattern_of_vx T) .nil passes_cxN (pa_cons (pe_slice sl_str (pv 3) po_none (po_some (pe_op op_sub (pv 4) pe_int))) (pa_cons (pv 1) pa_nil)))) (pss_cons (ps_set (i := 6) sc_pattern_of_vx.nd rfl (dk rfl) (pe_call ih (hr.mono (by omega)) (by rfl) T.g_pattern_of T.F_pattern_of.kp (bn_pattern_of_vx T) .nil passes_cxN (pa_cons (pe_slice sl_str (pv 3) (po_some (pe_op op_add (pv 4) pe_int)) po_none) (pa_cons (pv 1) pa_nil)))) (pss_one (ps_ret (pe_ifExp (pt_cmpR op_eqS (pe_ix ix_str (pv 3) (pv 4) (fun _ _ => rfl)) pe_str (nomark _)) (pe_op (r := rBinO K "and" _ (sp_Pattern___and___vx K) _) (op_binO (op := .BitAnd) (ok_Pattern___and___vx T) (hr.mono (by omega)) (bn_Pattern___and___vx T) passes_cxN) (pv 5) (pv 6)) (pe_op (r := rBinO K "or" _ (sp_Pattern___or___vx K) _) (op_binO (op := .BitOr) (ok_Pattern___or___vx T) (hr.mono (by omega)) (bn_Pattern___or___vx T) passes_cxN) (pv 5) (pv 6)))))))))))), ?_⟩
      have S : Sx P0 F0 H0 F0 H0 := Sx.refl0 hE
      unfold m_pattern_of_vx at hm
      refine rd_seq ?_
      refine rd_ifS ?_
      refine rd_not ?_
      refine rd_tB ?_
      refine rd_bm ?_
      refine rd_v rfl ?_
      refine rd_ty (tyS_str) ?_
      refine rd_cons ?_
      refine rd_c ?_
      refine rd_nil ?_
      refine rd_mSS ?_
      refine rd_b ?_
      refine if_b hm (fun b1 hm => ?_) (fun b1 hm => ?_)
      · skip
        obtain ⟨t2, e3, hm⟩ := bd_some hm
        refine rd_seq ?_
        refine rd_asg ?_
        refine rd_call ?_
        refine rd_cons ?_
        refine rd_v rfl ?_
        refine rd_nil ?_
        refine ⟨F0, _, t2, rfl, S.sub, e3, fun v7 F4 H5 c6 f8 => ?_⟩
        have S9 := S.call0 c6
        refine rd_gn ?_
        refine rd_seq ?_
        refine rd_ifS ?_
        refine rd_test ?_
        refine rd_op ?_
        refine rd_v rfl ?_
        refine rd_c ?_
        refine rd_isN (A := (qL qS)) f8 ?_
        refine rd_b ?_
        refine if_b hm (fun b10 hm => ?_) (fun b10 hm => ?_)
        · skip
          cases hm
          refine rd_rz ?_
          refine rd_cons ?_
          refine rd_v rfl ?_
          refine rd_nil ?_
          exact rd_eK (xs := [.str ((a_whole) : Str)]) S9 rfl rfl fun cls d H1 c er => hX _ _ _ _ _ rfl c er
        · skip
          obtain ⟨t11, e12, hm⟩ := bd_some hm
          have f13 := qO_some f8 e12
          refine rd_next ?_
          refine rd_ret ?_
          refine rd_makeRS ?_
          refine rd_v rfl ?_
          refine rd_st1 S9 f13 (fun vs14 row15 hl16 => ?_)
          obtain ⟨g17, hm⟩ := gd_some hm
          obtain ⟨t18, e19, hm⟩ := bd_some hm
          refine newx_Form S9 row15 (by rw [hl16]; exact g17) e19 ?_ ?_
          rotate_left
          · skip
            intro x27 cls28 d29 F30 H31 ee32 c33 ea34
            exact hX _ _ _ _ _ (exB_errM ee32 hm) (S9.call0 c33) ea34
          intro t20 er21 v22 F23 H24 c25 f26
          subst er21
          have hm := exB_ok hm
          have S35 := S9.call0 c25
          have f13 := (qL qS).mono c25.le f13
          have f36 : qPat.r K F23 v22 (Pat.form t20) := (show qPat.r K F23 v22 _ from f26)
          cases hm
          exact hQ _ rfl _ _ _ S35 f36
      · skip
        obtain ⟨g37, hm⟩ := gd_some hm
        obtain ⟨t38, e39, hm⟩ := bd_some hm
        refine rd_next ?_
        refine rd_seq ?_
        refine rd_asg ?_
        refine rd_sl ?_
        refine rd_v rfl ?_
        refine rd_pt ?_
        refine rd_c ?_
        refine rd_i ?_
        refine rd_pt ?_
        refine rd_un ?_
        refine rd_c ?_
        refine rd_U ?_
        refine rd_i ?_
        refine rd_slS g37 ?_
        refine rd_gn ?_
        refine rd_seq ?_
        refine rd_asg ?_
        refine rd_call ?_
        refine rd_cons ?_
        refine rd_v rfl ?_
        refine rd_nil ?_
        refine ⟨F0, _, t38, rfl, S.sub, e39, fun v43 F40 H41 c42 f44 => ?_⟩
        have S45 := S.call0 c42
        refine rd_gn ?_
        refine rd_seq ?_
        refine rd_ifS ?_
        refine rd_or ?_
        refine rd_not ?_
        refine rd_tB ?_
        refine rd_bm ?_
        refine rd_v rfl ?_
        refine rd_ty (tyS_str) ?_
        refine rd_cons ?_
        refine rd_c ?_
        refine rd_nil ?_
        refine rd_mSS ?_
        refine rd_b ?_
        refine or_p (by intro _ Q' q; refine rd_test ?_; refine rd_op ?_; refine rd_v rfl ?_; refine rd_c ?_; refine rd_isN (A := qI) f44 ?_; refine rd_b ?_; exact q) ?_
        refine if_b hm (fun b46 hm => ?_) (fun b46 hm => ?_)
        · skip
          cases hm
          refine rd_rz ?_
          refine rd_cons ?_
          refine rd_v rfl ?_
          refine rd_nil ?_
          exact rd_eK (xs := [.str ((a_whole) : Str)]) S45 rfl rfl fun cls d H1 c er => hX _ _ _ _ _ rfl c er
        · skip
          obtain ⟨t47, e48, hm⟩ := bd_some hm
          have f49 := qO_some f44 e48
          cases (show v43 = (V.int (t47)) from f49)
          obtain ⟨g50, hm⟩ := gd_some hm
          obtain ⟨g51, hm⟩ := gd_some hm
          obtain ⟨t53, e54, hm⟩ := bd_some hm
          refine rd_next ?_
          refine rd_seq ?_
          refine rd_ifS ?_
          refine rd_or ?_
          refine rd_test ?_
          refine rd_op ?_
          refine rd_sl ?_
          refine rd_sl ?_
          refine rd_v rfl ?_
          refine rd_np ?_
          refine rd_pt ?_
          refine rd_v rfl ?_
          refine rd_i ?_
          refine rd_slS g50 ?_
          refine rd_pt ?_
          refine rd_un ?_
          refine rd_c ?_
          refine rd_U ?_
          refine rd_i ?_
          refine rd_np ?_
          refine rd_slS g51 ?_
          refine rd_c ?_
          refine rd_S0 ?_
          refine rd_b ?_
          refine or_j (fun c H' => c = t53 ∧ ∃ F', Sx P0 F40 H41 F' H') ?_ ?_ ?_
          · intro b55 Q56 q57
            have e54 := if_f e54 b55
            have S58 := Sx.refl0 S45.sub
            obtain ⟨g59, e54⟩ := gd_some e54
            cases e54
            refine rd_test ?_
            refine rd_op ?_
            refine rd_sl ?_
            refine rd_v rfl ?_
            refine rd_pt ?_
            refine rd_op ?_
            refine rd_v rfl ?_
            refine rd_c ?_
            refine rd_I0 ?_
            refine rd_i ?_
            refine rd_pt ?_
            refine rd_op ?_
            refine rd_v rfl ?_
            refine rd_c ?_
            refine rd_I0 ?_
            refine rd_i ?_
            refine rd_slS g59 ?_
            refine rd_c ?_
            refine rd_S0 ?_
            refine rd_b ?_
            exact q57 _ _ ⟨rfl, F40, S58⟩
          · intro b55
            have e54 := if_t e54 b55
            cases e54
            have S60 := Sx.refl0 S45.sub
            exact ⟨rfl, F40, S60⟩
          rintro b64 H62 ⟨rfl, F61, c63⟩
          have S65 := S45.call0 c63
          refine if_b hm (fun b66 hm => ?_) (fun b66 hm => ?_)
          · skip
            cases hm
            refine rd_rz ?_
            refine rd_cons ?_
            refine rd_v rfl ?_
            refine rd_nil ?_
            exact rd_eK (xs := [.str ((a_whole) : Str)]) S65 rfl rfl fun cls d H1 c er => hX _ _ _ _ _ rfl c er
          · skip
            obtain ⟨g67, hm⟩ := gd_some hm
            obtain ⟨t68, e69, hm⟩ := bd_some hm
            refine rd_next ?_
            refine rd_seq ?_
            refine rd_asg ?_
            refine rd_call ?_
            refine rd_cons ?_
            refine rd_sl ?_
            refine rd_v rfl ?_
            refine rd_np ?_
            refine rd_pt ?_
            refine rd_op ?_
            refine rd_v rfl ?_
            refine rd_c ?_
            refine rd_I0 ?_
            refine rd_i ?_
            refine rd_slS g67 ?_
            refine rd_cons ?_
            refine rd_v rfl ?_
            refine rd_nil ?_
            refine ⟨F61, _, _, t68, rfl, S65.sub, e69, ?_, ?_⟩
            rotate_left
            · skip
              intro x77 cls78 d79 F80 H81 ee82 c83 ea84
              exact hX _ _ _ _ _ (exB_err ee82 hm) (S65.call0 c83) ea84
            intro t70 er76 v74 F71 H72 c73 f75
            subst er76
            have hm := exB_ok hm
            have S85 := S65.call0 c73
            obtain ⟨g86, hm⟩ := gd_some hm
            obtain ⟨t87, e88, hm⟩ := bd_some hm
            refine rd_gn ?_
            refine rd_seq ?_
            refine rd_asg ?_
            refine rd_call ?_
            refine rd_cons ?_
            refine rd_sl ?_
            refine rd_v rfl ?_
            refine rd_pt ?_
            refine rd_op ?_
            refine rd_v rfl ?_
            refine rd_c ?_
            refine rd_I0 ?_
            refine rd_i ?_
            refine rd_np ?_
            refine rd_slS g86 ?_
            refine rd_cons ?_
            refine rd_v rfl ?_
            refine rd_nil ?_
            refine ⟨F71, _, _, t87, rfl, S85.sub, e88, ?_, ?_⟩
            rotate_left
            · skip
              intro x96 cls97 d98 F99 H100 ee101 c102 ea103
              exact hX _ _ _ _ _ (exB_err ee101 hm) (S85.call0 c102) ea103
            intro t89 er95 v93 F90 H91 c92 f94
            subst er95
            have hm := exB_ok hm
            have S104 := S85.call0 c92
            have f75 := qPat.mono c92.le f75
            obtain ⟨t105, e106, hm⟩ := bd_some hm
            refine rd_gn ?_
            refine rd_ret ?_
            refine rd_ifE ?_
            refine rd_test ?_
            refine rd_op ?_
            refine rd_op ?_
            refine rd_v rfl ?_
            refine rd_v rfl ?_
            refine rd_ixS e106 ?_
            refine rd_c ?_
            refine rd_S0 ?_
            refine rd_b ?_
            refine if_b hm (fun b107 hm => ?_) (fun b107 hm => ?_)
            · skip
              obtain ⟨t108, e109, hm⟩ := bd_some hm
              refine rd_op ?_
              refine rd_v rfl ?_
              refine rd_v rfl ?_
              refine pat_and T.pf S104 f75 f94 ?_
              refine ⟨F90, _, _, _, _, t108, rfl, S104.sub, f75, f94, e109, ?_, ?_⟩
              rotate_left
              · skip
                intro x117 cls118 d119 F120 H121 ee122 c123 ea124
                exact hX _ _ _ _ _ (exB_errM ee122 hm) (S104.call0 c123) ea124
              intro t110 er116 v114 F111 H112 c113 f115
              subst er116
              have hm := exB_ok hm
              have S125 := S104.call0 c113
              have f75 := qPat.mono c113.le f75
              have f94 := qPat.mono c113.le f94
              cases hm
              exact hQ _ rfl _ _ _ S125 f115
            · skip
              obtain ⟨t126, e127, hm⟩ := bd_some hm
              refine rd_op ?_
              refine rd_v rfl ?_
              refine rd_v rfl ?_
              refine pat_or T.pf S104 f75 f94 ?_
              refine ⟨F90, _, _, _, _, t126, rfl, S104.sub, f75, f94, e127, ?_, ?_⟩
              rotate_left
              · skip
                intro x135 cls136 d137 F138 H139 ee140 c141 ea142
                exact hX _ _ _ _ _ (exB_errM ee140 hm) (S104.call0 c141) ea142
              intro t128 er134 v132 F129 H130 c131 f133
              subst er134
              have hm := exB_ok hm
              have S143 := S104.call0 c131
              have f75 := qPat.mono c131.le f75
              have f94 := qPat.mono c131.le f94
              cases hm
              exact hQ _ rfl _ _ _ S143 f133
def sp_read_pattern (K : PySem.W.Frag) : Sp := fun vs H Q _ => ∃ (F : Hp) (a_text : Str) (r : Pat), vs = [(V.str (a_text))] ∧ Same F H ∧ m_read_pattern a_text = some r ∧ ∀ v F' H', Sx P0 F H F' H' → qPat.r K F' v r → Q v H'
theorem sc_read_pattern : FnScope ["text", "why"] ["text"] (defScope s_read_pattern) := ⟨rfl, rfl, rfl, by decide +kernel, rfl, by decide +kernel, by decide +kernel⟩
theorem bn_read_pattern (T : Tx P K mg) : Binds K (fdOf K ("read_pattern", none)) ["text"] [] := FunD.bindsN T.F_read_pattern fun _ _ _ _ _ _ us hl => match us, hl with | [_], _ => rfl
theorem ok_read_pattern (T : Tx P K mg) : FnOk P w K mg base CX0 12 (He.ga K "read_pattern") (fdOf K ("read_pattern", none)) ["text"] (sp_read_pattern K) := by
  refine FunD.ok T.F_read_pattern sc_read_pattern (fun vs H0 Q E h => ?_) (fun cdv A outer s H0 vs Q E hr h => ?_)
  · obtain ⟨_, _, _, rfl, _⟩ := h
    rfl
  · obtain ⟨F0, a_text, r, rfl, hE, hm, hQ⟩ := h
    refine ⟨_, PSs.nox ((pss_cons (ps_if (PW.pt (pw_or (pt_not (pt_val (pe_callB (r := rIsi K) call_isi (by rfl) T.n_isinstance (by decide +kernel) (pa_cons (pv 0) (pa_cons (pe_bltn (v := V.ty "str") (by rfl) T.n_str (by decide +kernel) rfl) pa_nil))))) (pw_or1 (pt_cmpR op_ge (pe_bmK (K := K) PySem.F.plainAttrs_str PySem.F.slot_str_count PySem.F.type_str_count mt_count (pv 0) (pa_cons pe_str pa_nil)) (pe_glob (v := V.int 3) (by rfl) (T.k_MOST_FORMS.choose_spec) ⟨_, rfl⟩) (nomark _))))) (pss_one ps_dead) pss_nil) (pss_one (ps_tryK (i := 1) rfl rfl sc_read_pattern.nd rfl rfl ⟨by rfl, by decide, .inl T.gx_NoForm⟩ takesF (fun W pn xe tk own => (pss_one (ps_ret (pe_call (ok_pattern_of T 3) (hr.mono (by decide)) (by rfl) T.g_pattern_of T.F_pattern_of.kp (bn_pattern_of T) .nil pass0 (pa_cons (pv 0) (pa_cons (pv 0) pa_nil)))))) (fun a oe cls d pn hz hf => pss_never))))), ?_⟩
    have S : Sx P0 F0 H0 F0 H0 := Sx.refl0 hE
    unfold m_read_pattern at hm
    refine rd_seq ?_
    refine rd_ifS ?_
    refine rd_or ?_
    refine rd_not ?_
    refine rd_tB ?_
    refine rd_cb ?_
    refine rd_cons ?_
    refine rd_v rfl ?_
    refine rd_cons ?_
    refine rd_c ?_
    refine rd_nil ?_
    refine rd_isi (b := true) tx_str (by decide +kernel) ?_
    refine rd_b ?_
    refine if_ff ?_
    refine rd_test ?_
    refine rd_op ?_
    refine rd_bm ?_
    refine rd_v rfl ?_
    refine rd_ty (tyS_str) ?_
    refine rd_cons ?_
    refine rd_c ?_
    refine rd_nil ?_
    refine rd_mSS ?_
    refine rd_c ?_
    refine rd_I0 ?_
    refine rd_b ?_
    refine if_b hm (fun b1 hm => ?_) (fun b1 hm => ?_)
    · skip
      cases hm
    · skip
      obtain ⟨t2, e3, hm⟩ := bd_some hm
      refine rd_next ?_
      refine rd_try ?_
      refine rd_ret ?_
      refine rd_call ?_
      refine rd_cons ?_
      refine rd_v rfl ?_
      refine rd_cons ?_
      refine rd_v rfl ?_
      refine rd_nil ?_
      refine ⟨F0, _, _, t2, rfl, S.sub, e3, fun v7 F4 H5 c6 f8 => ?_⟩
      have S9 := S.call0 c6
      cases hm
      exact hQ _ _ _ S9 f8
def sp_read_pattern_vx (K : PySem.W.Frag) : Sp := fun vs H Q E => ∃ (F : Hp) (a_text : Str) (rr : (Except Str Pat)), vs = [(V.str (a_text))] ∧ Same F H ∧ m_read_pattern_vx a_text = some rr ∧ (∀ r, rr = .ok r → ∀ v F' H', Sx P0 F H F' H' → qPat.r K F' v r → Q v H') ∧ (∀ e cls d F' H', rr = .error e → Sx P0 F H F' H' → ErrAt K H' "NoText" ["text"] [.str e] cls d → E cls d H')
theorem sc_read_pattern_vx : FnScope ["text", "why"] ["text"] (defScope s_read_pattern) := ⟨rfl, rfl, rfl, by decide +kernel, rfl, by decide +kernel, by decide +kernel⟩
theorem bn_read_pattern_vx (T : Tx P K mg) : Binds K (fdOf K ("read_pattern", none)) ["text"] [] := FunD.bindsN T.F_read_pattern fun _ _ _ _ _ _ us hl => match us, hl with | [_], _ => rfl
theorem ok_read_pattern_vx (T : Tx P K mg) : FnOk P w K mg base (L2.CX P w) 12 (He.ga K "read_pattern") (fdOf K ("read_pattern", none)) ["text"] (sp_read_pattern_vx K) := by
  refine FunD.ok T.F_read_pattern sc_read_pattern_vx (fun vs H0 Q E h => ?_) (fun cdv A outer s H0 vs Q E hr h => ?_)
  · obtain ⟨_, _, _, rfl, _⟩ := h
    rfl
  · obtain ⟨F0, a_text, rr, rfl, hE, hm, hQ, hX⟩ := h
    refine ⟨_, (pss_cons (ps_if (PW.pt (pw_or (pt_not (pt_val (pe_callB (r := rIsi K) call_isi (by rfl) T.n_isinstance (by decide +kernel) (pa_cons (pv 0) (pa_cons (pe_bltn (v := V.ty "str") (by rfl) T.n_str (by decide +kernel) rfl) pa_nil))))) (pw_or1 (pt_cmpR op_ge (pe_bmK (K := K) PySem.F.plainAttrs_str PySem.F.slot_str_count PySem.F.type_str_count mt_count (pv 0) (pa_cons pe_str pa_nil)) (pe_glob (v := V.int 3) (by rfl) (T.k_MOST_FORMS.choose_spec) ⟨_, rfl⟩) (nomark _))))) (pss_one (ps_rz (pmk_err (k := 0) T.er_NoText.c is_NoText T.er_NoText.no T.er_NoText.g T.er_NoText.k (hr.mono (by decide)) (by rfl) (pa_cons (pv 0) pa_nil)))) pss_nil) (pss_one (ps_tryXK (i := 1) rfl rfl sc_read_pattern_vx.nd rfl rfl ⟨by rfl, by decide, .inl T.gx_NoForm⟩ owns_at takes_cx (fun W pn xe tk own => (pss_one (ps_ret (pe_callS (ok_pattern_of_vx T 3) (hr.mono (by decide)) (by rfl) T.g_pattern_of T.F_pattern_of.kp (bn_pattern_of_vx T) (fun σ => L2N.passAt tk σ) (pa_cons (pv 0) (pa_cons (pv 0) pa_nil)))))) (fun a oe cls d pn hz hf => (pss_one (ps_rzF (i := 1) hz hf rfl rfl (pmk_errN (k := 0) T.er_NoText.c is_NoText T.er_NoText.no T.er_NoText.g T.er_NoText.k (room_mark (hr.mono (by decide))) (by rfl) (pa_cons (pv 0) pa_nil)))))))), ?_⟩
    have S : Sx P0 F0 H0 F0 H0 := Sx.refl0 hE
    unfold m_read_pattern_vx at hm
    refine rd_seq ?_
    refine rd_ifS ?_
    refine rd_or ?_
    refine rd_not ?_
    refine rd_tB ?_
    refine rd_cb ?_
    refine rd_cons ?_
    refine rd_v rfl ?_
    refine rd_cons ?_
    refine rd_c ?_
    refine rd_nil ?_
    refine rd_isi (b := true) tx_str (by decide +kernel) ?_
    refine rd_b ?_
    refine if_ff ?_
    refine rd_test ?_
    refine rd_op ?_
    refine rd_bm ?_
    refine rd_v rfl ?_
    refine rd_ty (tyS_str) ?_
    refine rd_cons ?_
    refine rd_c ?_
    refine rd_nil ?_
    refine rd_mSS ?_
    refine rd_c ?_
    refine rd_I0 ?_
    refine rd_b ?_
    refine if_b hm (fun b1 hm => ?_) (fun b1 hm => ?_)
    · skip
      cases hm
      refine rd_rz ?_
      refine rd_cons ?_
      refine rd_v rfl ?_
      refine rd_nil ?_
      exact rd_eK (xs := [.str ((a_text) : Str)]) S rfl rfl fun cls d H1 c er => hX _ _ _ _ _ rfl c er
    · skip
      obtain ⟨t2, e3, hm⟩ := bd_some hm
      refine rd_next ?_
      refine rd_try ?_
      refine rd_ret ?_
      refine rd_callS ?_
      refine rd_cons ?_
      refine rd_v rfl ?_
      refine rd_cons ?_
      refine rd_v rfl ?_
      refine rd_nil ?_
      refine ⟨F0, _, _, t2, rfl, S.sub, e3, ?_, ?_⟩
      rotate_left
      · skip
        intro x11 cls12 d13 F14 H15 ee16 c17 ea18
        subst ee16
        have hm := exT_err hm
        rcases x11 with x19 | x19
        · skip
          have hm := suml hm
          have ea20 : ErrAt K H15 "NoText" ["text"] [.str x19] cls12 d13 := ea18
          obtain ⟨dd22, hx21, _⟩ := id ea20
          refine rd_wasNo (by rw [hx21]; exact T.xn_NoText_NoForm) ?_
          exact hX _ _ _ _ _ (Option.some.inj hm).symm (S.call0 c17) ea20
        · skip
          have hm := sumr hm
          have ea27 : ErrAt K H15 "NoForm" ["at"] [ovI x19] cls12 d13 := ea18
          obtain ⟨dd23, rfl, rfl, hx24⟩ := ea27
          refine rd_was T.xm_NoForm_NoForm (fun a25 na26 => ?_)
          have S28 := S.call0 c17
          cases hm
          refine rd_rzF T.er_NoForm.c.x.exC ?_
          refine rd_cons ?_
          refine rd_v rfl ?_
          refine rd_nil ?_
          exact rd_eK (xs := [.str ((a_text) : Str)]) S28 rfl rfl fun cls d H1 c er => ⟨rfl, hX _ _ _ _ _ rfl c er⟩
      intro t4 er10 v8 F5 H6 c7 f9
      subst er10
      have hm := exT_ok hm
      have S29 := S.call0 c7
      cases hm
      exact hQ _ rfl _ _ _ S29 f9
def sp_law_refused (K : PySem.W.Frag) : Sp := fun vs H Q _ => ∃ (F : Hp) (a__law_text_here : Str) (r : Bool), vs = [(V.str (a__law_text_here))] ∧ Same F H ∧ m_law_refused a__law_text_here = some r ∧ ∀ v F' H', Sx P0 F H F' H' → qB.r K F' v r → Q v H'
theorem sc_law_refused : FnScope ["_law_text_here", "e"] ["_law_text_here"] (defScope s_law_refused) := ⟨rfl, rfl, rfl, by decide +kernel, rfl, by decide +kernel, by decide +kernel⟩
theorem bn_law_refused (T : Tx P K mg) : Binds K (fdOf K ("_law_refused", none)) ["_law_text_here"] [] := FunD.bindsN T.F_law_refused fun _ _ _ _ _ _ us hl => match us, hl with | [_], _ => rfl
theorem ok_law_refused (T : Tx P K mg) : FnOk P w K mg base CX0 13 (He.ga K "_law_refused") (fdOf K ("_law_refused", none)) ["_law_text_here"] (sp_law_refused K) := by
  refine FunD.ok T.F_law_refused sc_law_refused (fun vs H0 Q E h => ?_) (fun cdv A outer s H0 vs Q E hr h => ?_)
  · obtain ⟨_, _, _, rfl, _⟩ := h
    rfl
  · obtain ⟨F0, a__law_text_here, r, rfl, hE, hm, hQ⟩ := h
    refine ⟨_, PSs.nox ((pss_cons (ps_tryK (i := 1) rfl rfl sc_law_refused.nd rfl rfl ⟨by rfl, by decide, .inl T.gx_NoText⟩ takesF (fun W pn xe tk own => (pss_one (ps_expr (pe_callS (ok_read_pattern_vx T) (hr.mono (by decide)) (by rfl) T.g_read_pattern T.F_read_pattern.kp (bn_read_pattern_vx T) (fun σ => passAt tk σ) (pa_cons (pv 0) pa_nil))))) (fun a oe cls d pn hz hf => (pss_one (ps_ret (pe_and (pe_cmpR op_eqS (pe_xf T.er_NoText.xf (T.er_NoText.no _ (by decide)) hz hf (pv 1)) (pv 0) (nomark _)) (pe_and (pe_callB (r := rIsX K (He.ga K "NoText") a cls d) (cr_isX T.ie_NoText hz hf) (by rfl) T.n_isinstance (by decide +kernel) (pa_cons (pv 1) (pa_cons (pe_glob (v := V.ref (He.ga K "GlueError")) (by rfl) T.gx_GlueError rfl) pa_nil))) (pe_and (pe_callB (r := rIsX K (He.ga K "NoText") a cls d) (cr_isX T.ie_NoText hz hf) (by rfl) T.n_isinstance (by decide +kernel) (pa_cons (pv 1) (pa_cons (pe_bltn (v := V.ty "ValueError") (by rfl) T.n_ValueError (by decide +kernel) rfl) pa_nil))) (pe_one (pe_not (pe_callB (r := rIsX K (He.ga K "NoText") a cls d) (cr_isX T.ie_NoText hz hf) (by rfl) T.n_isinstance (by decide +kernel) (pa_cons (pv 1) (pa_cons (pe_glob (v := V.ref (He.ga K "NoForm")) (by rfl) T.gx_NoForm rfl) pa_nil)))))))))))) (pss_one (ps_ret pe_bl)))), ?_⟩
    have S : Sx P0 F0 H0 F0 H0 := Sx.refl0 hE
    unfold m_law_refused at hm
    obtain ⟨t1, e2, hm⟩ := bd_some hm
    refine rd_seq ?_
    refine rd_try ?_
    refine rd_drop ?_
    refine rd_callS ?_
    refine rd_cons ?_
    refine rd_v rfl ?_
    refine rd_nil ?_
    refine ⟨F0, _, t1, rfl, S.sub, e2, ?_, ?_⟩
    rotate_left
    · skip
      intro x10 cls11 d12 F13 H14 ee15 c16 ea17
      subst ee15
      have hm := exT_err hm
      obtain ⟨dd18, rfl, rfl, hx19⟩ := ea17
      refine rd_was T.xm_NoText_NoText (fun a20 na21 => ?_)
      have S22 := S.call0 c16
      cases hm
      refine rd_ret ?_
      refine rd_andV ?_
      refine rd_op ?_
      refine rd_xf ?_
      refine rd_v rfl ?_
      refine xf_at hx19 (by rfl) ?_
      refine rd_v rfl ?_
      refine rd_S0 ?_
      refine rd_b ?_
      refine andV_p (by intro _ Q' q; refine rd_andV ?_; refine rd_cb ?_; refine rd_cons ?_; refine rd_v rfl ?_; refine rd_cons ?_; refine rd_c ?_; refine rd_nil ?_; refine rd_isX (cx := V.ref (He.ga K "GlueError")) hx19 (fun _ h => h) T.ki_NoText_GlueError ?_; refine rd_b ?_; refine if_tt ?_; refine rd_andV ?_; refine rd_cb ?_; refine rd_cons ?_; refine rd_v rfl ?_; refine rd_cons ?_; refine rd_c ?_; refine rd_nil ?_; refine rd_isX (cx := V.ty "ValueError") hx19 (fun _ h => h) T.ki_NoText_ValueError ?_; refine rd_b ?_; refine if_tt ?_; refine rd_notV ?_; refine rd_cb ?_; refine rd_cons ?_; refine rd_v rfl ?_; refine rd_cons ?_; refine rd_c ?_; refine rd_nil ?_; refine rd_isX (cx := V.ref (He.ga K "NoForm")) hx19 (fun _ h => h) T.ki_NoText_NoForm ?_; refine rd_b ?_; exact q) ?_
      exact hQ _ _ _ S22 rfl
    intro t3 er9 v7 F4 H5 c6 f8
    subst er9
    have hm := exT_ok hm
    have S23 := S.call0 c6
    cases hm
    refine rd_ret ?_
    refine rd_c ?_
    exact hQ _ _ _ S23 rfl
def sp_law_all_signs (K : PySem.W.Frag) : Sp := fun vs H Q _ => ∃ (F : Hp)  (r : Str), vs = [] ∧ Same F H ∧ m_law_all_signs = some r ∧ ∀ v F' H', Sx P0 F H F' H' → qS.r K F' v r → Q v H'
theorem sc_law_all_signs : FnScope [] [] (defScope s_law_all_signs) := ⟨rfl, rfl, rfl, by decide +kernel, rfl, by decide +kernel, by decide +kernel⟩
theorem bn_law_all_signs (T : Tx P K mg) : Binds K (fdOf K ("_law_all_signs", none)) [] [] := FunD.bindsN T.F_law_all_signs fun _ _ _ _ _ _ us hl => match us, hl with | [], _ => rfl
theorem ok_law_all_signs (T : Tx P K mg) : FnOk P w K mg base CX0 1 (He.ga K "_law_all_signs") (fdOf K ("_law_all_signs", none)) [] (sp_law_all_signs K) := by
  refine FunD.ok T.F_law_all_signs sc_law_all_signs (fun vs H0 Q E h => ?_) (fun cdv A outer s H0 vs Q E hr h => ?_)
  · obtain ⟨_, _, rfl, _⟩ := h
    rfl
  · obtain ⟨F0, r, rfl, hE, hm, hQ⟩ := h
    refine ⟨_, PSs.nox ((pss_one (ps_ret pe_str))), ?_⟩
    have S : Sx P0 F0 H0 F0 H0 := Sx.refl0 hE
    unfold m_law_all_signs at hm
    cases hm
    refine rd_ret ?_
    refine rd_c ?_
    exact hQ _ _ _ S rfl
def sp_law_text (K : PySem.W.Frag) : Sp := fun vs H Q _ => ∃ (F : Hp) (p__law_pool_here : Addr) (a__law_pool_here : Int × Int) (r : (Str × (Int × Int))), vs = [.ref p__law_pool_here] ∧ Same F H ∧ Ow (fun a => a = p__law_pool_here) H F H p__law_pool_here (.lst [.int a__law_pool_here.1, .int a__law_pool_here.2]) ∧ m_law_text a__law_pool_here = some r ∧ ∀ v F' H', Sx (fun a => a = p__law_pool_here) F H F' H' → Ow (fun a => a = p__law_pool_here) H F' H' p__law_pool_here (.lst [.int r.2.1, .int r.2.2]) → qS.r K F' v r.1 → Q v H'
theorem sc_law_text : FnScope ["_law_pool_here", "_law_text_here", "_law_style", "_law_k"] ["_law_pool_here"] (defScope s_law_text) := ⟨rfl, rfl, rfl, by decide +kernel, rfl, by decide +kernel, by decide +kernel⟩
theorem bn_law_text (T : Tx P K mg) : Binds K (fdOf K ("_law_text", none)) ["_law_pool_here"] [] := FunD.bindsN T.F_law_text fun _ _ _ _ _ _ us hl => match us, hl with | [_], _ => rfl
theorem ok_law_text (T : Tx P K mg) : FnOk P w K mg base CX0 2 (He.ga K "_law_text") (fdOf K ("_law_text", none)) ["_law_pool_here"] (sp_law_text K) := by
  refine FunD.ok T.F_law_text sc_law_text (fun vs H0 Q E h => ?_) (fun cdv A outer s H0 vs Q E hr h => ?_)
  · obtain ⟨_, _, _, _, rfl, _⟩ := h
    rfl
  · obtain ⟨F0, p__law_pool_here, a__law_pool_here, r, rfl, hE, w__law_pool_here, hm, hQ⟩ := h
    refine ⟨_, PSs.nox ((pss_cons (ps_set (i := 1) sc_law_text.nd rfl (dk rfl) pe_str) (pss_cons (ps_set (i := 2) sc_law_text.nd rfl (dk rfl) (pe_call (ok_law_take T) (hr.mono (by decide)) (by rfl) T.g_law_take T.F_law_take.kp (bn_law_take T) .nil pass0 (pa_cons (pv 0) (pa_cons pe_int pa_nil)))) (pss_cons (ps_for PassesOwn.never rfl (pi_range1 (by rfl) T.n_range (pa_cons (pe_op op_add pe_int (pe_call (ok_law_take T) (hr.mono (by decide)) (by rfl) T.g_law_take T.F_law_take.kp (bn_law_take T) .nil pass0 (pa_cons (pv 0) (pa_cons pe_int pa_nil)))) pa_nil)) (pg_name (i := 3) sc_law_text.nd rfl (dk rfl)) (pss_one (ps_if (pt_cmpR op_eqI (pv 2) pe_int (nomark _)) (pss_one (ps_set (i := 1) sc_law_text.nd rfl (dk rfl) (pe_op op_catS (pv 1) (pe_ix ix_str (pe_call0 (ok_law_all_signs T) (hr.mono (by decide)) (by rfl) T.g_law_all_signs T.F_law_all_signs.kp (bn_law_all_signs T) .nil pass0) (pe_call (ok_law_take T) (hr.mono (by decide)) (by rfl) T.g_law_take T.F_law_take.kp (bn_law_take T) .nil pass0 (pa_cons (pv 0) (pa_cons pe_int pa_nil))) (fun _ _ => rfl))))) (pss_one (ps_set (i := 1) sc_law_text.nd rfl (dk rfl) (pe_op op_catS (pv 1) (pe_ix ix_str pe_str (pe_call (ok_law_take T) (hr.mono (by decide)) (by rfl) T.g_law_take T.F_law_take.kp (bn_law_take T) .nil pass0 (pa_cons (pv 0) (pa_cons pe_int pa_nil))) (fun _ _ => rfl)))))))) (pss_one (ps_ret (pv 1))))))), ?_⟩
    have S : Sx (fun a => a = p__law_pool_here) F0 H0 F0 H0 := Sx.refl hE (live1 w__law_pool_here)
    unfold m_law_text at hm
    obtain ⟨t1, e2, hm⟩ := bd_some hm
    refine rd_seq ?_
    refine rd_asg ?_
    refine rd_c ?_
    refine rd_gn ?_
    refine rd_seq ?_
    refine rd_asg ?_
    refine rd_call ?_
    refine rd_cons ?_
    refine rd_v rfl ?_
    refine rd_cons ?_
    refine rd_c ?_
    refine rd_nil ?_
    refine ⟨F0, _, _, _, t1, rfl, S.sub, w__law_pool_here.arg, e2, fun v6 F3 H4 c5 w8 f7 => ?_⟩
    have S9 := S.call1 c5 w__law_pool_here
    have w10 := w__law_pool_here.back w8
    cases (show v6 = (V.int (t1.1)) from f7)
    obtain ⟨t11, e12, hm⟩ := bd_some hm
    refine rd_gn ?_
    refine rd_seq ?_
    refine rd_for ?_
    refine rd_iR1 ?_
    refine rd_cons ?_
    refine rd_op ?_
    refine rd_c ?_
    refine rd_call ?_
    refine rd_cons ?_
    refine rd_v rfl ?_
    refine rd_cons ?_
    refine rd_c ?_
    refine rd_nil ?_
    refine ⟨F3, _, _, _, t11, rfl, S9.sub, w10.arg, e12, fun v16 F13 H14 c15 w18 f17 => ?_⟩
    have S19 := S9.call1 c15 w10
    have w20 := w10.back w18
    cases (show v16 = (V.int (t11.1)) from f17)
    obtain ⟨g21, hm⟩ := gd_some hm
    refine rd_I0 ?_
    refine rd_nil ?_
    refine rd_r1 g21 ?_
    obtain ⟨t22, e23, hm⟩ := bd_some hm
    refine rd_forS feedsRg (typedR (K := K) (F := F13)) e23 (fun (s24 : ((Int × Int) × Str)) σ H => ∃ (F : Hp) (o3 : Option V), σ = [some (V.ref p__law_pool_here), some (V.str (s24.2)), some (V.int (t1.1)), o3] ∧ Sx (fun a => a = p__law_pool_here) F13 H14 F H ∧ Ow (fun a => a = p__law_pool_here) H14 F H p__law_pool_here (.lst [V.int s24.1.1, V.int s24.1.2])) ?_ ?_ ?_ ?_
    · intro _ _ _ _; trivial
    · skip
      have S26 : Sx (fun a => a = p__law_pool_here) _ _ _ _ := Sx.refl S19.sub (fun a z => by rw [z, w20.at_]; exact (fun h => nomatch h))
      have w27 : Ow (fun a => a = p__law_pool_here) H14 _ _ _ _ := ⟨w20.fr, w20.at_, .inr (rfl)⟩
      exact ⟨F13, _, rfl, S26, w27⟩
    · skip
      rintro x28 v29 s30 c34 σ31 H32 f33 ⟨F35, o37, rfl, S36, w38⟩ hm41
      unfold m_law_text_b1 at hm41
      cases (show v29 = (V.int (x28)) from f33)
      refine rd_gn ?_
      refine rd_ifS ?_
      refine rd_test ?_
      refine rd_op ?_
      refine rd_v rfl ?_
      refine rd_c ?_
      refine rd_I0 ?_
      refine rd_b ?_
      refine if_b hm41 (fun b42 hm41 => ?_) (fun b42 hm41 => ?_)
      · skip
        obtain ⟨t43, e44, hm41⟩ := bd_some hm41
        refine rd_asg ?_
        refine rd_op ?_
        refine rd_v rfl ?_
        refine rd_op ?_
        refine rd_call ?_
        refine rd_nil ?_
        refine ⟨F35, t43, rfl, S36.sub, e44, fun v48 F45 H46 c47 f49 => ?_⟩
        have S50 := S36.call0 c47
        have w38 := w38.call0 c47
        cases (show v48 = (V.str (t43)) from f49)
        obtain ⟨t51, e52, hm41⟩ := bd_some hm41
        refine rd_call ?_
        refine rd_cons ?_
        refine rd_v rfl ?_
        refine rd_cons ?_
        refine rd_c ?_
        refine rd_nil ?_
        refine ⟨F45, _, _, _, t51, rfl, S50.sub, w38.arg, e52, fun v56 F53 H54 c55 w58 f57 => ?_⟩
        have S59 := S50.call1 c55 w38
        have w60 := w38.back w58
        cases (show v56 = (V.int (t51.1)) from f57)
        obtain ⟨t61, e62, hm41⟩ := bd_some hm41
        obtain ⟨g63, hm41⟩ := gd_some hm41
        cases hm41
        refine rd_ixS e62 ?_
        refine rd_catS g63 ?_
        refine rd_gn ?_
        exact ⟨F53, _, rfl, S59, w60⟩
      · skip
        obtain ⟨t64, e65, hm41⟩ := bd_some hm41
        refine rd_asg ?_
        refine rd_op ?_
        refine rd_v rfl ?_
        refine rd_op ?_
        refine rd_c ?_
        refine rd_call ?_
        refine rd_cons ?_
        refine rd_v rfl ?_
        refine rd_cons ?_
        refine rd_c ?_
        refine rd_nil ?_
        refine ⟨F35, _, _, _, t64, rfl, S36.sub, w38.arg, e65, fun v69 F66 H67 c68 w71 f70 => ?_⟩
        have S72 := S36.call1 c68 w38
        have w73 := w38.back w71
        cases (show v69 = (V.int (t64.1)) from f70)
        obtain ⟨t74, e75, hm41⟩ := bd_some hm41
        obtain ⟨g76, hm41⟩ := gd_some hm41
        cases hm41
        refine rd_ixS e75 ?_
        refine rd_catS g76 ?_
        refine rd_gn ?_
        exact ⟨F66, _, rfl, S72, w73⟩
    · skip
      rintro σ77 H78 ⟨F79, o81, rfl, S80, w82⟩
      have S83 := S19.call1 S80 w20
      have w84 : Ow (fun a => a = p__law_pool_here) H0 _ _ _ _ := ⟨w82.fr, w82.at_, w20.mine⟩
      cases hm
      refine rd_ret ?_
      refine rd_v rfl ?_
      exact hQ _ _ _ S83 w84 rfl
def sp_law_rich (K : PySem.W.Frag) : Sp := fun vs H Q _ => ∃ (F : Hp) (p__law_pool_here : Addr) (a__law_pool_here : Int × Int) (r : ((List Str) × (Int × Int))), vs = [.ref p__law_pool_here] ∧ Same F H ∧ Ow (fun a => a = p__law_pool_here) H F H p__law_pool_here (.lst [.int a__law_pool_here.1, .int a__law_pool_here.2]) ∧ m_law_rich a__law_pool_here = some r ∧ ∀ v F' H', Sx (fun a => a = p__law_pool_here) F H F' H' → Ow (fun a => a = p__law_pool_here) H F' H' p__law_pool_here (.lst [.int r.2.1, .int r.2.2]) → (qL qS).r K F' v r.1 → Q v H'
theorem sc_law_rich : FnScope ["_law_pool_here", "_law_parts", "_law_k", "_law_kind", "_law_fixed"] ["_law_pool_here"] (defScope s_law_rich) := ⟨rfl, rfl, rfl, by decide +kernel, rfl, by decide +kernel, by decide +kernel⟩
theorem bn_law_rich (T : Tx P K mg) : Binds K (fdOf K ("_law_rich", none)) ["_law_pool_here"] [] := FunD.bindsN T.F_law_rich fun _ _ _ _ _ _ us hl => match us, hl with | [_], _ => rfl
theorem ok_law_rich (T : Tx P K mg) : FnOk P w K mg base CX0 3 (He.ga K "_law_rich") (fdOf K ("_law_rich", none)) ["_law_pool_here"] (sp_law_rich K) := by
  refine FunD.ok T.F_law_rich sc_law_rich (fun vs H0 Q E h => ?_) (fun cdv A outer s H0 vs Q E hr h => ?_)
  · obtain ⟨_, _, _, _, rfl, _⟩ := h
    rfl
  · obtain ⟨F0, p__law_pool_here, a__law_pool_here, r, rfl, hE, w__law_pool_here, hm, hQ⟩ := h
    refine ⟨_, PSs.nox ((pss_cons (ps_set (i := 1) sc_law_rich.nd rfl (dk rfl) (pe_lst pa_nil)) (pss_cons (ps_for PassesOwn.never rfl (pi_range1 (by rfl) T.n_range (pa_cons (pe_op op_add pe_int (pe_call (ok_law_take T) (hr.mono (by decide)) (by rfl) T.g_law_take T.F_law_take.kp (bn_law_take T) .nil pass0 (pa_cons (pv 0) (pa_cons pe_int pa_nil)))) pa_nil)) (pg_name (i := 2) sc_law_rich.nd rfl (dk rfl)) (pss_cons (ps_set (i := 3) sc_law_rich.nd rfl (dk rfl) (pe_call (ok_law_take T) (hr.mono (by decide)) (by rfl) T.g_law_take T.F_law_take.kp (bn_law_take T) .nil pass0 (pa_cons (pv 0) (pa_cons pe_int pa_nil)))) (pss_cons (ps_set (i := 4) sc_law_rich.nd rfl (dk rfl) (pe_and (pe_cmpR (r := rNeD K) (op_neD hr.units) (pv 1) (pe_lst pa_nil) (nomark _)) (pe_one (pe_cmpR (r := rIn K true) op_notIn_seq (pe_ix (r := rIxL K) ix_list (pv 1) (pe_un un_neg pe_int) (fun _ _ => rfl)) (pe_tup (pa_cons pe_str (pa_cons pe_str (pa_cons pe_str pa_nil)))) rfl)))) (pss_one (ps_if (PW.pt (pw_and (pt_cmpR op_eqI (pv 3) pe_int (nomark _)) (pw_and1 (pt_cmpR (r := rIn K true) op_notIn_seq pe_str (pv 1) rfl)))) (pss_one (ps_expr (pe_bmK (K := K) PySem.F.plainAttrs_list PySem.F.slot_list_append PySem.F.type_list_append mt_append (pv 1) (pa_cons pe_str pa_nil)))) (pss_one (ps_if (pt_cmpR op_eqI (pv 3) pe_int (nomark _)) (pss_one (ps_expr (pe_bmK (K := K) PySem.F.plainAttrs_list PySem.F.slot_list_append PySem.F.type_list_append mt_append (pv 1) (pa_cons pe_str pa_nil)))) (pss_one (ps_if (PW.pt (pw_or (pt_cmpR op_eqI (pv 3) pe_int (nomark _)) (pw_or1 (pt_val (pv 4))))) (pss_one (ps_expr (pe_bmK (K := K) PySem.F.plainAttrs_list PySem.F.slot_list_append PySem.F.type_list_append mt_append (pv 1) (pa_cons pe_str pa_nil)))) (pss_one (ps_expr (pe_bmK (K := K) PySem.F.plainAttrs_list PySem.F.slot_list_append PySem.F.type_list_append mt_append (pv 1) (pa_cons (pe_call (ok_law_text T) (hr.mono (by decide)) (by rfl) T.g_law_text T.F_law_text.kp (bn_law_text T) .nil pass0 (pa_cons (pv 0) pa_nil)) pa_nil))))))))))))) (pss_one (ps_ret (pv 1)))))), ?_⟩
    have S : Sx (fun a => a = p__law_pool_here) F0 H0 F0 H0 := Sx.refl hE (live1 w__law_pool_here)
    unfold m_law_rich at hm
    refine rd_seq ?_
    refine rd_asg ?_
    refine rd_lst ?_
    refine rd_nil ?_
    refine rd_lK rfl ?_
    refine al S (fun p1 H2 np3 c4 w5 => ?_)
    have r6 : Row qS K F0 [] ([] : List Str) := .nil
    have ne7 : p__law_pool_here ≠ p1 := w__law_pool_here.ne np3
    have z8 := S.free0 np3
    have S9 := S.call0 c4
    have w__law_pool_here := w__law_pool_here.call0 c4
    obtain ⟨t10, e11, hm⟩ := bd_some hm
    refine rd_gn ?_
    refine rd_seq ?_
    refine rd_for ?_
    refine rd_iR1 ?_
    refine rd_cons ?_
    refine rd_op ?_
    refine rd_c ?_
    refine rd_call ?_
    refine rd_cons ?_
    refine rd_v rfl ?_
    refine rd_cons ?_
    refine rd_c ?_
    refine rd_nil ?_
    refine ⟨F0, _, _, _, t10, rfl, S9.sub, w__law_pool_here.arg, e11, fun v15 F12 H13 c14 w17 f16 => ?_⟩
    have S18 := S9.call1 c14 w__law_pool_here
    have r6 := Row.mono c14.le r6
    have w5 := w5.call c14 (by intro z; exact (Ne.symm ne7) z)
    have w19 := w__law_pool_here.back w17
    cases (show v15 = (V.int (t10.1)) from f16)
    obtain ⟨g20, hm⟩ := gd_some hm
    refine rd_I0 ?_
    refine rd_nil ?_
    refine rd_r1 g20 ?_
    obtain ⟨t21, e22, hm⟩ := bd_some hm
    refine rd_forS feedsRg (typedR (K := K) (F := F12)) e22 (fun (s23 : ((Int × Int) × (List Str))) σ H => ∃ (F : Hp) (o2 : Option V) (o3 : Option V) (o4 : Option V) (vs1 : List V), σ = [some (V.ref p__law_pool_here), some (V.ref p1), o2, o3, o4] ∧ Sx (fun a => a = p__law_pool_here ∨ a = p1) F12 H13 F H ∧ Ow (fun a => a = p__law_pool_here ∨ a = p1) H13 F H p__law_pool_here (.lst [V.int s23.1.1, V.int s23.1.2]) ∧ Ow (fun a => a = p__law_pool_here ∨ a = p1) H13 F H p1 (.lst vs1) ∧ Row qS K F vs1 s23.2) ?_ ?_ ?_ ?_
    · intro _ _ _ _; trivial
    · skip
      have S25 : Sx (fun a => a = p__law_pool_here ∨ a = p1) _ _ _ _ := Sx.refl S18.sub (by
          rintro a (rfl | rfl)
          · rw [w19.at_]; exact (fun h => nomatch h)
          · rw [w5.at_]; exact (fun h => nomatch h))
      have w26 : Ow (fun a => a = p__law_pool_here ∨ a = p1) H13 _ _ _ _ := ⟨w19.fr, w19.at_, .inr (Or.inl rfl)⟩
      have w27 : Ow (fun a => a = p__law_pool_here ∨ a = p1) H13 _ _ _ _ := ⟨w5.fr, w5.at_, .inr (Or.inr (rfl))⟩
      exact ⟨F12, _, _, _, _, rfl, S25, w26, w27, r6⟩
    · skip
      rintro x28 v29 s30 c34 σ31 H32 f33 ⟨F35, o37, o38, o39, v40, rfl, S36, w41, w42, r43⟩ hm46
      unfold m_law_rich_b1 at hm46
      cases (show v29 = (V.int (x28)) from f33)
      obtain ⟨t47, e48, hm46⟩ := bd_some hm46
      refine rd_gn ?_
      refine rd_seq ?_
      refine rd_asg ?_
      refine rd_call ?_
      refine rd_cons ?_
      refine rd_v rfl ?_
      refine rd_cons ?_
      refine rd_c ?_
      refine rd_nil ?_
      refine ⟨F35, _, _, _, t47, rfl, S36.sub, w41.arg, e48, fun v52 F49 H50 c51 w54 f53 => ?_⟩
      have S55 := S36.call1 c51 w41
      have r43 := Row.mono c51.le r43
      have w42 := w42.call c51 (by intro z; exact (Ne.symm ne7) z)
      have w56 := w41.back w54
      cases (show v52 = (V.int (t47.1)) from f53)
      refine rd_gn ?_
      refine rd_seq ?_
      refine rd_asg ?_
      refine rd_andV ?_
      refine rd_op ?_
      refine rd_v rfl ?_
      refine rd_lst ?_
      refine rd_nil ?_
      refine rd_lK rfl ?_
      refine alL (K := K) (A := qS) (xs := ([] : List Str)) S55 .nil (fun v57 F58 H59 c60 f61 => ?_)
      have S62 := S55.call0 c60
      have w56 := w56.call0 c60
      have r43 := Row.mono c60.le r43
      have w42 := w42.call0 c60
      obtain ⟨g63, hm46⟩ := gd_some hm46
      obtain ⟨g64, hm46⟩ := gd_some hm46
      obtain ⟨t75, e76, hm46⟩ := bd_some hm46
      refine rd_neD (D := (dL dS)) (w42.dS S62.sub dS r43) (S62.d (dL dS) f61) g63 g64 ?_
      refine rd_b ?_
      refine andV_j (fun c H' => c = V.bl t75 ∧ ∃ F', Sx P0 F58 H59 F' H') ?_ ?_ ?_
      · intro b77 Q78 q79
        have e76 := if_t e76 b77
        have S80 := Sx.refl0 S62.sub
        obtain ⟨t81, e82, e76⟩ := bd_some e76
        refine rd_op ?_
        refine rd_op ?_
        refine rd_v rfl ?_
        refine rd_un ?_
        refine rd_c ?_
        refine rd_U ?_
        refine rd_ixL (w42.l r43).r e82 (fun u83 f84 => ?_)
        cases (show u83 = (V.str (t81)) from f84)
        refine rd_tup ?_
        refine rd_cons ?_
        refine rd_c ?_
        refine rd_cons ?_
        refine rd_c ?_
        refine rd_cons ?_
        refine rd_c ?_
        refine rd_nil ?_
        refine rd_uK rfl ?_
        refine alT (K := K) (A := qS) (xs := [("<any>" : Str), ("<digits>" : Str), ("<word>" : Str)]) S80 (.cons rfl (.cons rfl (.cons rfl .nil))) (fun v85 F86 H87 c88 f89 => ?_)
        have S90 := S80.call0 c88
        have w56 := w56.call0 c88
        have r43 := Row.mono c88.le r43
        have w42 := w42.call0 c88
        cases e76
        refine rd_niS (S90.t f89).q ?_
        exact q79 _ _ ⟨rfl, F86, S90⟩
      · intro b77
        have e76 := if_f e76 b77
        cases e76
        have S91 := Sx.refl0 S62.sub
        exact ⟨rfl, F58, S91⟩
      rintro b95 H93 ⟨rfl, F92, c94⟩
      have S96 := S62.call0 c94
      have w56 := w56.call0 c94
      have r43 := Row.mono c94.le r43
      have w42 := w42.call0 c94
      refine rd_gn ?_
      refine rd_ifS ?_
      refine rd_and ?_
      refine rd_test ?_
      refine rd_op ?_
      refine rd_v rfl ?_
      refine rd_c ?_
      refine rd_I0 ?_
      refine rd_b ?_
      refine and_p (by intro _ Q' q; refine rd_test ?_; refine rd_op ?_; refine rd_c ?_; refine rd_v rfl ?_; refine rd_niS (w42.l r43).r.q ?_; refine rd_b ?_; exact q) ?_
      refine if_b hm46 (fun b97 hm46 => ?_) (fun b97 hm46 => ?_)
      · skip
        obtain ⟨g98, hm46⟩ := gd_some hm46
        refine rd_drop ?_
        refine rd_bm ?_
        refine rd_v rfl ?_
        refine rd_ty w42.ty ?_
        refine rd_cons ?_
        refine rd_c ?_
        refine rd_nil ?_
        refine ap S96 w42 r43 g98 (fun H99 c100 w101 => ?_)
        have r102 := r43.snoc (show qS.r K F92 _ ("<any>" : Str) from rfl)
        have S103 := S96.call1 c100 w42
        have w56 := w56.call c100 (by intro z; exact ne7 z)
        have r102 := Row.mono c100.le r102
        cases hm46
        exact ⟨F92, _, _, _, _, rfl, S103, w56, w101, r102⟩
      · skip
        refine rd_ifS ?_
        refine rd_test ?_
        refine rd_op ?_
        refine rd_v rfl ?_
        refine rd_c ?_
        refine rd_I0 ?_
        refine rd_b ?_
        refine if_b hm46 (fun b104 hm46 => ?_) (fun b104 hm46 => ?_)
        · skip
          obtain ⟨g105, hm46⟩ := gd_some hm46
          refine rd_drop ?_
          refine rd_bm ?_
          refine rd_v rfl ?_
          refine rd_ty w42.ty ?_
          refine rd_cons ?_
          refine rd_c ?_
          refine rd_nil ?_
          refine ap S96 w42 r43 g105 (fun H106 c107 w108 => ?_)
          have r109 := r43.snoc (show qS.r K F92 _ ("<digits>" : Str) from rfl)
          have S110 := S96.call1 c107 w42
          have w56 := w56.call c107 (by intro z; exact ne7 z)
          have r109 := Row.mono c107.le r109
          cases hm46
          exact ⟨F92, _, _, _, _, rfl, S110, w56, w108, r109⟩
        · skip
          refine rd_ifS ?_
          refine rd_or ?_
          refine rd_test ?_
          refine rd_op ?_
          refine rd_v rfl ?_
          refine rd_c ?_
          refine rd_I0 ?_
          refine rd_b ?_
          refine or_p (by intro _ Q' q; refine rd_tB ?_; refine rd_v rfl ?_; refine rd_b ?_; exact q) ?_
          refine if_b hm46 (fun b111 hm46 => ?_) (fun b111 hm46 => ?_)
          · skip
            obtain ⟨g112, hm46⟩ := gd_some hm46
            refine rd_drop ?_
            refine rd_bm ?_
            refine rd_v rfl ?_
            refine rd_ty w42.ty ?_
            refine rd_cons ?_
            refine rd_c ?_
            refine rd_nil ?_
            refine ap S96 w42 r43 g112 (fun H113 c114 w115 => ?_)
            have r116 := r43.snoc (show qS.r K F92 _ ("<word>" : Str) from rfl)
            have S117 := S96.call1 c114 w42
            have w56 := w56.call c114 (by intro z; exact ne7 z)
            have r116 := Row.mono c114.le r116
            cases hm46
            exact ⟨F92, _, _, _, _, rfl, S117, w56, w115, r116⟩
          · skip
            obtain ⟨t118, e119, hm46⟩ := bd_some hm46
            refine rd_drop ?_
            refine rd_bm ?_
            refine rd_v rfl ?_
            refine rd_ty w42.ty ?_
            refine rd_cons ?_
            refine rd_call ?_
            refine rd_cons ?_
            refine rd_v rfl ?_
            refine rd_nil ?_
            refine ⟨F92, _, _, t118, rfl, S96.sub, w56.arg, e119, fun v123 F120 H121 c122 w125 f124 => ?_⟩
            have S126 := S96.call1 c122 w56
            have r43 := Row.mono c122.le r43
            have w42 := w42.call c122 (by intro z; exact (Ne.symm ne7) z)
            have w127 := w56.back w125
            cases (show v123 = (V.str (t118.1)) from f124)
            obtain ⟨g128, hm46⟩ := gd_some hm46
            refine rd_nil ?_
            refine ap S126 w42 r43 g128 (fun H129 c130 w131 => ?_)
            have r132 := r43.snoc (show qS.r K F120 _ t118.1 from rfl)
            have S133 := S126.call1 c130 w42
            have w127 := w127.call c130 (by intro z; exact ne7 z)
            have r132 := Row.mono c130.le r132
            cases hm46
            exact ⟨F120, _, _, _, _, rfl, S133, w127, w131, r132⟩
    · skip
      rintro σ134 H135 ⟨F136, o138, o139, o140, v141, rfl, S137, w142, w143, r144⟩
      have S145 := S18.call S137 (by
          rintro a (rfl | rfl)
          · exact w19.mine.symm
          · exact w5.mine.symm)
      have w146 : Ow (fun a => a = p__law_pool_here) H0 _ _ _ _ := ⟨w142.fr, w142.at_, w19.mine⟩
      have w147 : Ow (fun a => a = p__law_pool_here) H0 _ _ _ _ := ⟨w143.fr, w143.at_, w5.mine⟩
      obtain ⟨F148, S149, le150, f151, _, eq152⟩ := fz S145 w147 z8 r144
      have w146 := w146.fzO ne7 eq152
      cases hm
      refine rd_ret ?_
      refine rd_v rfl ?_
      exact hQ _ _ _ S149 w146 f151
def sp_law_shape (K : PySem.W.Frag) : Sp := fun vs H Q _ => ∃ (F : Hp) (p__law_pool_here : Addr) (a__law_pool_here : Int × Int) (a__law_many : Int) (r : (Shp × (Int × Int))), vs = [.ref p__law_pool_here, (V.int (a__law_many))] ∧ Same F H ∧ Ow (fun a => a = p__law_pool_here) H F H p__law_pool_here (.lst [.int a__law_pool_here.1, .int a__law_pool_here.2]) ∧ m_law_shape a__law_pool_here a__law_many = some r ∧ ∀ v F' H', Sx (fun a => a = p__law_pool_here) F H F' H' → Ow (fun a => a = p__law_pool_here) H F' H' p__law_pool_here (.lst [.int r.2.1, .int r.2.2]) → qSh.r K F' v r.1 → Q v H'
theorem sc_law_shape : FnScope ["_law_pool_here", "_law_many", "_law_rows", "_law_at", "_law_k"] ["_law_pool_here", "_law_many"] (defScope s_law_shape) := ⟨rfl, rfl, rfl, by decide +kernel, rfl, by decide +kernel, by decide +kernel⟩
theorem bn_law_shape (T : Tx P K mg) : Binds K (fdOf K ("_law_shape", none)) ["_law_pool_here", "_law_many"] [] := FunD.bindsN T.F_law_shape fun _ _ _ _ _ _ us hl => match us, hl with | [_, _], _ => rfl
theorem ok_law_shape (T : Tx P K mg) : FnOk P w K mg base CX0 2 (He.ga K "_law_shape") (fdOf K ("_law_shape", none)) ["_law_pool_here", "_law_many"] (sp_law_shape K) := by
  refine FunD.ok T.F_law_shape sc_law_shape (fun vs H0 Q E h => ?_) (fun cdv A outer s H0 vs Q E hr h => ?_)
  · obtain ⟨_, _, _, _, _, rfl, _⟩ := h
    rfl
  · obtain ⟨F0, p__law_pool_here, a__law_pool_here, a__law_many, r, rfl, hE, w__law_pool_here, hm, hQ⟩ := h
    refine ⟨_, PSs.nox ((pss_cons (ps_setLc (i := 2) (own := [("_law_k", 4)]) (tt := tYes) rfl sc_law_shape.nd rfl rfl (sw_true rfl rfl rfl (by decide +kernel)) (pi_range1 (by rfl) T.n_range (pa_cons (pv 1) pa_nil)) (blkOk_by (N := ["_law_pool_here", "_law_many", "_law_rows", "_law_at", "_law_k"]) (sc := defScope s_law_shape) (by decide +kernel)) (fun _ _ _ _ _ => pg_name (i := 4) sc_law_shape.nd rfl (Or.inl rfl)) (fun _ _ _ _ _ => pts_nil) (fun _ _ _ _ _ => (pe_lst (pa_cons (pv 4) pa_nil)))) (pss_cons (ps_while PassesOwn.never (pt_cmpR op_gt (pe_callB (r := rLenQ K) cr_lenQ (by rfl) T.n_len (by decide +kernel) (pa_cons (pv 2) pa_nil)) pe_int (nomark _)) (pss_cons (ps_set (i := 3) sc_law_shape.nd rfl (dk rfl) (pe_call (ok_law_take T) (hr.mono (by decide)) (by rfl) T.g_law_take T.F_law_take.kp (bn_law_take T) .nil pass0 (pa_cons (pv 0) (pa_cons (pe_op op_sub (pe_callB (r := rLenQ K) cr_lenQ (by rfl) T.n_len (by decide +kernel) (pa_cons (pv 2) pa_nil)) pe_int) pa_nil)))) (pss_one (ps_set (i := 2) sc_law_shape.nd rfl (dk rfl) (pe_op op_cat (pe_op op_cat (pe_slice (r := rSlL K) sl_list (pv 2) po_none (po_some (pv 3))) (pe_lst (pa_cons (pe_lst (pa_cons (pe_ix (r := rIxL K) ix_list (pe_lst (pa_cons pe_str (pa_cons pe_str pa_nil))) (pe_call (ok_law_take T) (hr.mono (by decide)) (by rfl) T.g_law_take T.F_law_take.kp (bn_law_take T) .nil pass0 (pa_cons (pv 0) (pa_cons pe_int pa_nil))) (fun _ _ => rfl)) (pa_cons (pe_ix (r := rIxL K) ix_list (pv 2) (pv 3) (fun _ _ => rfl)) (pa_cons (pe_ix (r := rIxL K) ix_list (pv 2) (pe_op op_add (pv 3) pe_int) (fun _ _ => rfl)) pa_nil)))) pa_nil))) (pe_slice (r := rSlL K) sl_list (pv 2) (po_some (pe_op op_add (pv 3) pe_int)) po_none)))))) (pss_one (ps_ret (pe_ix (r := rIxL K) ix_list (pv 2) pe_int (fun _ _ => rfl))))))), ?_⟩
    have S : Sx (fun a => a = p__law_pool_here) F0 H0 F0 H0 := Sx.refl hE (live1 w__law_pool_here)
    unfold m_law_shape at hm
    obtain ⟨g1, hm⟩ := gd_some hm
    refine rd_seq ?_
    refine rd_asg ?_
    refine rd_lc ?_
    refine rd_iR1 ?_
    refine rd_cons ?_
    refine rd_v rfl ?_
    refine rd_nil ?_
    refine rd_r1 g1 ?_
    obtain ⟨g2, hm⟩ := gd_some hm
    obtain ⟨t3, e4, hm⟩ := bd_some hm
    refine rd_comp (B := qSh) feedsRg (typedR (K := K) (F := F0)) e4 g2 (Pc := P0) (fun _ z => z.elim) S.sub (fun (s5 : Unit) F H => True) ?_ ?_ ?_ ?_ ?_ ?_
    · intro _ _ _ _ _; trivial
    · trivial
    · intros; trivial
    · intros; trivial
    · skip
      intro x7 v8 s9 o10 F11 H12 d13 acc14 f15 S16 w17 w18 n19 hm20 E21 N22 hN23 hE24
      have w__law_pool_here := w__law_pool_here.call0 S16
      have S25 := Sx.refl0 S16.sub
      unfold m_law_shape_b1 at hm20
      cases (show v8 = (V.int (x7)) from f15)
      refine rd_gn ?_
      refine rd_wp rfl ?_
      refine rd_yes ?_
      refine if_tt ?_
      refine rd_lst ?_
      refine rd_cons ?_
      refine rd_v rfl ?_
      refine rd_nil ?_
      refine rd_lK rfl ?_
      refine alL (K := K) (A := qI) (xs := ([x7] : List Int)) S25 (.cons rfl .nil) (fun v26 F27 H28 c29 f30 => ?_)
      have S31 := S25.call0 c29
      have w__law_pool_here := w__law_pool_here.call0 c29
      have f32 : qSh.r K F27 v26 (Shp.lf x7) := sh_of1 f30
      cases hm20
      exact hN23 _ _ _ _ rfl S31 f32 trivial
    intro p33 us34 F35 H36 n37 c38 w39 w40 r41
    have z42 := S.free0 n37
    have ne43 : p__law_pool_here ≠ p33 := w__law_pool_here.ne n37
    have S44 := S.call0 c38
    have w__law_pool_here := w__law_pool_here.call0 c38
    have w45 : Ow (fun a => a = p__law_pool_here) H0 _ _ _ _ := ⟨w40.fr, w40.at_, .inl z42⟩
    obtain ⟨F46, S47, le48, f49, _, eq50⟩ := fz S44 w45 z42 r41
    have w__law_pool_here := w__law_pool_here.fzO ne43 eq50
    obtain ⟨t51, e52, hm⟩ := bd_some hm
    refine rd_gn ?_
    refine rd_seq ?_
    refine rd_whileS e52 (fun (s53 : ((Int × Int) × (List Shp))) σ H => ∃ (F : Hp) (x1 : V) (o3 : Option V) (o4 : Option V), σ = [some (V.ref p__law_pool_here), some (V.int (a__law_many)), some x1, o3, o4] ∧ Sx (fun a => a = p__law_pool_here) F46 H36 F H ∧ (qL qSh).r K F x1 s53.2 ∧ Ow (fun a => a = p__law_pool_here) H36 F H p__law_pool_here (.lst [V.int s53.1.1, V.int s53.1.2])) ?_ ?_ ?_ ?_
    · skip
      have S54 : Sx (fun a => a = p__law_pool_here) _ _ _ _ := Sx.refl S47.sub (fun a z => by rw [z, w__law_pool_here.at_]; exact (fun h => nomatch h))
      have w55 : Ow (fun a => a = p__law_pool_here) H36 _ _ _ _ := ⟨w__law_pool_here.fr, w__law_pool_here.at_, .inr (rfl)⟩
      exact ⟨F46, _, _, _, rfl, S54, f49, w55⟩
    · skip
      rintro s56 b57 σ58 H59 T60 E61 ⟨F65, x67, o68, o69, rfl, S66, f70, w71⟩ hm64 hT62 hE63
      unfold m_law_shape_b2 at hm64
      refine rd_test ?_
      refine rd_op ?_
      refine rd_cb ?_
      refine rd_cons ?_
      refine rd_v rfl ?_
      refine rd_nil ?_
      refine rd_lenQ (S66.l f70).r.q ?_
      refine rd_c ?_
      refine rd_I0 ?_
      refine rd_b ?_
      refine if_j (fun b72 => ?_) (fun b72 => ?_)
      · cases hm64; exact hT62 _ _ b72 ⟨F65, _, _, _, rfl, S66, f70, w71⟩
      · cases hm64; exact hE63 _ _ b72 ⟨F65, _, _, _, rfl, S66, f70, w71⟩
    · skip
      rintro s73 s74 σ75 H76 ⟨F80, x82, o83, o84, rfl, S81, f85, w86⟩ hm77
      unfold m_law_shape_b3 at hm77
      obtain ⟨t87, e88, hm77⟩ := bd_some hm77
      refine rd_seq ?_
      refine rd_asg ?_
      refine rd_call ?_
      refine rd_cons ?_
      refine rd_v rfl ?_
      refine rd_cons ?_
      refine rd_op ?_
      refine rd_cb ?_
      refine rd_cons ?_
      refine rd_v rfl ?_
      refine rd_nil ?_
      refine rd_lenQ (S81.l f85).r.q ?_
      refine rd_c ?_
      refine rd_I0 ?_
      refine rd_nil ?_
      refine ⟨F80, _, _, _, t87, rfl, S81.sub, w86.arg, e88, fun v92 F89 H90 c91 w94 f93 => ?_⟩
      have S95 := S81.call1 c91 w86
      have f85 := (qL qSh).mono c91.le f85
      have w96 := w86.back w94
      cases (show v92 = (V.int (t87.1)) from f93)
      refine rd_gn ?_
      refine rd_asg ?_
      refine rd_op ?_
      refine rd_op ?_
      refine rd_sl ?_
      refine rd_v rfl ?_
      refine rd_np ?_
      refine rd_pt ?_
      refine rd_v rfl ?_
      refine rd_i ?_
      refine rd_slL (S95.l f85).r ?_
      refine alL' S95 (fun v97 F98 H99 c100 f101 => ?_)
      have S102 := S95.call0 c100
      have f85 := (qL qSh).mono c100.le f85
      have w96 := w96.call0 c100
      refine rd_lst ?_
      refine rd_cons ?_
      refine rd_lst ?_
      refine rd_cons ?_
      refine rd_op ?_
      refine rd_lst ?_
      refine rd_cons ?_
      refine rd_c ?_
      refine rd_cons ?_
      refine rd_c ?_
      refine rd_nil ?_
      refine rd_lK rfl ?_
      refine alL (K := K) (A := qS) (xs := [("&" : Str), ("|" : Str)]) S102 (.cons rfl (.cons rfl .nil)) (fun v103 F104 H105 c106 f107 => ?_)
      have S108 := S102.call0 c106
      have f85 := (qL qSh).mono c106.le f85
      have f101 := (qL qSh).mono c106.le f101
      have w96 := w96.call0 c106
      obtain ⟨t109, e110, hm77⟩ := bd_some hm77
      refine rd_call ?_
      refine rd_cons ?_
      refine rd_v rfl ?_
      refine rd_cons ?_
      refine rd_c ?_
      refine rd_nil ?_
      refine ⟨F104, _, _, _, t109, rfl, S108.sub, w96.arg, e110, fun v114 F111 H112 c113 w116 f115 => ?_⟩
      have S117 := S108.call1 c113 w96
      have f85 := (qL qSh).mono c113.le f85
      have f101 := (qL qSh).mono c113.le f101
      have f107 := (qL qS).mono c113.le f107
      have w118 := w96.back w116
      cases (show v114 = (V.int (t109.1)) from f115)
      obtain ⟨t119, e120, hm77⟩ := bd_some hm77
      refine rd_ixL (S117.l f107).r e120 (fun u121 f122 => ?_)
      cases (show u121 = (V.str (t119)) from f122)
      obtain ⟨t123, e124, hm77⟩ := bd_some hm77
      refine rd_cons ?_
      refine rd_op ?_
      refine rd_v rfl ?_
      refine rd_v rfl ?_
      refine rd_ixL (S117.l f85).r e124 (fun u125 f126 => ?_)
      obtain ⟨t127, e128, hm77⟩ := bd_some hm77
      refine rd_cons ?_
      refine rd_op ?_
      refine rd_v rfl ?_
      refine rd_op ?_
      refine rd_v rfl ?_
      refine rd_c ?_
      refine rd_I0 ?_
      refine rd_ixL (S117.l f85).r e128 (fun u129 f130 => ?_)
      refine rd_nil ?_
      refine rd_lK rfl ?_
      refine alLr (K := K) (B := (fc qS (fc qSh (f1 qSh)))) (a := (t119, t123, t127)) S117 ⟨_, _, rfl, rfl, _, _, rfl, f126, _, rfl, f130⟩ (fun v131 F132 H133 c134 f135 => ?_)
      have S136 := S117.call0 c134
      have f85 := (qL qSh).mono c134.le f85
      have f101 := (qL qSh).mono c134.le f101
      have w118 := w118.call0 c134
      have f137 : qSh.r K F132 v131 (Shp.nd ((t119, t123, t127)).1 ((t119, t123, t127)).2.1 ((t119, t123, t127)).2.2) := sh_of3 f135
      refine rd_nil ?_
      refine rd_lK rfl ?_
      refine alL (K := K) (A := qSh) (xs := [(Shp.nd ((t119, t123, t127)).1 ((t119, t123, t127)).2.1 ((t119, t123, t127)).2.2)]) S136 (.cons f137 .nil) (fun v138 F139 H140 c141 f142 => ?_)
      have S143 := S136.call0 c141
      have f85 := (qL qSh).mono c141.le f85
      have f101 := (qL qSh).mono c141.le f101
      have w118 := w118.call0 c141
      obtain ⟨g144, hm77⟩ := gd_some hm77
      refine rd_cat (S143.l f101) (S143.l f142) g144 ?_
      refine alL' S143 (fun v145 F146 H147 c148 f149 => ?_)
      have S150 := S143.call0 c148
      have f85 := (qL qSh).mono c148.le f85
      have w118 := w118.call0 c148
      refine rd_sl ?_
      refine rd_v rfl ?_
      refine rd_pt ?_
      refine rd_op ?_
      refine rd_v rfl ?_
      refine rd_c ?_
      refine rd_I0 ?_
      refine rd_i ?_
      refine rd_np ?_
      refine rd_slL (S150.l f85).r ?_
      refine alL' S150 (fun v151 F152 H153 c154 f155 => ?_)
      have S156 := S150.call0 c154
      have f85 := (qL qSh).mono c154.le f85
      have f149 := (qL qSh).mono c154.le f149
      have w118 := w118.call0 c154
      obtain ⟨g157, hm77⟩ := gd_some hm77
      refine rd_cat (S156.l f149) (S156.l f155) g157 ?_
      refine alL' S156 (fun v158 F159 H160 c161 f162 => ?_)
      have S163 := S156.call0 c161
      have f85 := (qL qSh).mono c161.le f85
      have w118 := w118.call0 c161
      cases hm77
      refine rd_gn ?_
      exact ⟨F159, _, _, _, rfl, S163, f162, w118⟩
    · skip
      rintro σ164 H165 ⟨F166, x168, o169, o170, rfl, S167, f171, w172⟩
      have S173 := S47.call1 S167 w__law_pool_here
      have w174 : Ow (fun a => a = p__law_pool_here) H0 _ _ _ _ := ⟨w172.fr, w172.at_, w__law_pool_here.mine⟩
      obtain ⟨t175, e176, hm⟩ := bd_some hm
      refine rd_ret ?_
      refine rd_op ?_
      refine rd_v rfl ?_
      refine rd_c ?_
      refine rd_ixL (S173.l f171).r e176 (fun u177 f178 => ?_)
      cases hm
      exact hQ _ _ _ S173 w174 f178
def sp_law_same_or_none (K : PySem.W.Frag) : Sp := fun vs H Q _ => ∃ (F : Hp) (a__law_text_here : Str) (r : Bool), vs = [(V.str (a__law_text_here))] ∧ Same F H ∧ m_law_same_or_none a__law_text_here = some r ∧ ∀ v F' H', Sx P0 F H F' H' → qB.r K F' v r → Q v H'
theorem sc_law_same_or_none : FnScope ["_law_text_here", "_law_pattern", "e"] ["_law_text_here"] (defScope s_law_same_or_none) := ⟨rfl, rfl, rfl, by decide +kernel, rfl, by decide +kernel, by decide +kernel⟩
theorem bn_law_same_or_none (T : Tx P K mg) : Binds K (fdOf K ("_law_same_or_none", none)) ["_law_text_here"] [] := FunD.bindsN T.F_law_same_or_none fun _ _ _ _ _ _ us hl => match us, hl with | [_], _ => rfl
theorem ok_law_same_or_none (T : Tx P K mg) : FnOk P w K mg base CX0 13 (He.ga K "_law_same_or_none") (fdOf K ("_law_same_or_none", none)) ["_law_text_here"] (sp_law_same_or_none K) := by
  refine FunD.ok T.F_law_same_or_none sc_law_same_or_none (fun vs H0 Q E h => ?_) (fun cdv A outer s H0 vs Q E hr h => ?_)
  · obtain ⟨_, _, _, rfl, _⟩ := h
    rfl
  · obtain ⟨F0, a__law_text_here, r, rfl, hE, hm, hQ⟩ := h
    refine ⟨_, PSs.nox ((pss_cons (ps_tryK (i := 2) rfl rfl sc_law_same_or_none.nd rfl rfl ⟨by rfl, by decide, .inl T.gx_NoText⟩ takesF (fun W pn xe tk own => (pss_one (ps_set (i := 1) sc_law_same_or_none.nd rfl (dk rfl) (pe_callS (ok_read_pattern_vx T) (hr.mono (by decide)) (by rfl) T.g_read_pattern T.F_read_pattern.kp (bn_read_pattern_vx T) (fun σ => passAt tk σ) (pa_cons (pv 0) pa_nil))))) (fun a oe cls d pn hz hf => (pss_one (ps_ret (pe_and (pe_cmpR op_eqS (pe_xf T.er_NoText.xf (T.er_NoText.no _ (by decide)) hz hf (pv 2)) (pv 0) (nomark _)) (pe_one (pe_callB (r := rIsX K (He.ga K "NoText") a cls d) (cr_isX T.ie_NoText hz hf) (by rfl) T.n_isinstance (by decide +kernel) (pa_cons (pv 2) (pa_cons (pe_glob (v := V.ref (He.ga K "GlueError")) (by rfl) T.gx_GlueError rfl) pa_nil))))))))) (pss_one (ps_ret (pe_cmpR op_eqS (pe_callTy (r := rStrW P w K mg base 10) (cr_strW (hr.mono (by decide))) (by rfl) T.n_str (by decide +kernel) (pa_cons (pv 1) pa_nil)) (pv 0) (nomark _)))))), ?_⟩
    have S : Sx P0 F0 H0 F0 H0 := Sx.refl0 hE
    unfold m_law_same_or_none at hm
    obtain ⟨t1, e2, hm⟩ := bd_some hm
    refine rd_seq ?_
    refine rd_try ?_
    refine rd_asg ?_
    refine rd_callS ?_
    refine rd_cons ?_
    refine rd_v rfl ?_
    refine rd_nil ?_
    refine ⟨F0, _, t1, rfl, S.sub, e2, ?_, ?_⟩
    rotate_left
    · skip
      intro x10 cls11 d12 F13 H14 ee15 c16 ea17
      subst ee15
      have hm := exT_err hm
      obtain ⟨dd18, rfl, rfl, hx19⟩ := ea17
      refine rd_was T.xm_NoText_NoText (fun a20 na21 => ?_)
      have S22 := S.call0 c16
      cases hm
      refine rd_ret ?_
      refine rd_andV ?_
      refine rd_op ?_
      refine rd_xf ?_
      refine rd_v rfl ?_
      refine xf_at hx19 (by rfl) ?_
      refine rd_v rfl ?_
      refine rd_S0 ?_
      refine rd_b ?_
      refine andV_p (by intro _ Q' q; refine rd_cb ?_; refine rd_cons ?_; refine rd_v rfl ?_; refine rd_cons ?_; refine rd_c ?_; refine rd_nil ?_; refine rd_isX (cx := V.ref (He.ga K "GlueError")) hx19 (fun _ h => h) T.ki_NoText_GlueError ?_; exact q) ?_
      exact hQ _ _ _ S22 rfl
    intro t3 er9 v7 F4 H5 c6 f8
    subst er9
    have hm := exT_ok hm
    have S23 := S.call0 c6
    refine rd_gn ?_
    refine rd_ret ?_
    refine rd_op ?_
    refine rd_cb ?_
    refine rd_cons ?_
    refine rd_v rfl ?_
    refine rd_nil ?_
    refine VM.strW (vm_str T 3) S23 f8 ?_
    obtain ⟨t24, e25, hm⟩ := bd_some hm
    refine ⟨F4, _, _, t24, rfl, S23.sub, f8, rfl, e25, fun v29 F26 H27 c28 f30 => ?_⟩
    have S31 := S23.call0 c28
    have f8 := qPat.mono c28.le f8
    cases (show v29 = (V.str (t24)) from f30)
    cases hm
    refine rd_stK ?_
    refine rd_v rfl ?_
    refine rd_S0 ?_
    exact hQ _ _ _ S31 rfl
def sp_law (K : PySem.W.Frag) : Sp := fun vs H Q _ => ∃ (F : Hp) (v__law_script : V) (a__law_script : List Int) (r : Bool), vs = [v__law_script] ∧ Same F H ∧ qC.r K F v__law_script a__law_script ∧ m_law a__law_script = some r ∧ ∀ v F' H', Sx P0 F H F' H' → qB.r K F' v r → Q v H'
theorem sc_law : FnScope ["_law_script", "_law_text_here", "_law_k", "_law_pool_here", "_law_drawn", "_law_bent_here", "_law_at"] ["_law_script"] (defScope s_law) := ⟨rfl, rfl, rfl, by decide +kernel, rfl, by decide +kernel, by decide +kernel⟩
theorem bn_law (T : Tx P K mg) : Binds K (fdOf K ("law", none)) ["_law_script"] [] := FunD.bindsN T.F_law fun _ _ _ _ _ _ us hl => match us, hl with | [_], _ => rfl
theorem ok_law (T : Tx P K mg) : FnOk P w K mg base CX0 14 (He.ga K "law") (fdOf K ("law", none)) ["_law_script"] (sp_law K) := by
  refine FunD.ok T.F_law sc_law (fun vs H0 Q E h => ?_) (fun cdv A outer s H0 vs Q E hr h => ?_)
  · obtain ⟨_, _, _, _, rfl, _⟩ := h
    rfl
  · obtain ⟨F0, v__law_script, a__law_script, r, rfl, hE, f__law_script, hm, hQ⟩ := h
    refine ⟨_, PSs.nox ((pss_cons (ps_for PassesOwn.never rfl (pi_listK (pe_call0 (ok_law_odd T) (hr.mono (by decide)) (by rfl) T.g_law_odd T.F_law_odd.kp (bn_law_odd T) .nil pass0)) (pg_name (i := 1) sc_law.nd rfl (dk rfl)) (pss_one (ps_if (pt_not (pt_val (pe_call (ok_law_refused T) (hr.mono (by decide)) (by rfl) T.g_law_refused T.F_law_refused.kp (bn_law_refused T) .nil pass0 (pa_cons (pv 1) pa_nil)))) (pss_one (ps_ret pe_bl)) pss_nil))) (pss_cons (ps_for PassesOwn.never rfl (pi_range1 (by rfl) T.n_range (pa_cons (pe_callB (cr_max2 rfl) (by rfl) T.n_max (by decide +kernel) (pa_cons pe_int (pa_cons (pe_callB (cr_min2 rfl) (by rfl) T.n_min (by decide +kernel) (pa_cons pe_int (pa_cons (pe_callB (r := rLenQ K) cr_lenQ (by rfl) T.n_len (by decide +kernel) (pa_cons (pv 0) pa_nil)) pa_nil))) pa_nil))) pa_nil)) (pg_name (i := 2) sc_law.nd rfl (dk rfl)) (pss_cons (ps_set (i := 3) sc_law.nd rfl (dk rfl) (pe_call (ok_law_pool T) (hr.mono (by decide)) (by rfl) T.g_law_pool T.F_law_pool.kp (bn_law_pool T) .nil pass0 (pa_cons (pv 0) (pa_cons (pv 2) pa_nil)))) (pss_cons (ps_setLc (i := 4) (own := [("_law_at", 6)]) (tt := tYes) rfl sc_law.nd rfl rfl (sw_true rfl rfl rfl (by decide +kernel)) (pi_range1 (by rfl) T.n_range (pa_cons (pe_op op_add pe_int (pe_call (ok_law_take T) (hr.mono (by decide)) (by rfl) T.g_law_take T.F_law_take.kp (bn_law_take T) .nil pass0 (pa_cons (pv 3) (pa_cons pe_int pa_nil)))) pa_nil)) (blkOk_by (N := ["_law_script", "_law_text_here", "_law_k", "_law_pool_here", "_law_drawn", "_law_bent_here", "_law_at"]) (sc := defScope s_law) (by decide +kernel)) (fun _ _ _ _ _ => pg_name (i := 6) sc_law.nd rfl (Or.inl rfl)) (fun _ _ _ _ _ => pts_nil) (fun _ _ _ _ _ => (pe_call (ok_law_rich T) (hr.mono (by decide)) (by rfl) T.g_law_rich T.F_law_rich.kp (bn_law_rich T) .nil pass0 (pa_cons (pv 3) pa_nil)))) (pss_cons (ps_set (i := 1) sc_law.nd rfl (dk rfl) (pe_call (ok_law_shown T 3) (hr.mono (by decide)) (by rfl) T.g_law_shown T.F_law_shown.kp (bn_law_shown T) .nil pass0 (pa_cons (pe_call (ok_law_shape T) (hr.mono (by decide)) (by rfl) T.g_law_shape T.F_law_shape.kp (bn_law_shape T) .nil pass0 (pa_cons (pv 3) (pa_cons (pe_callB (r := rLenQ K) cr_lenQ (by rfl) T.n_len (by decide +kernel) (pa_cons (pv 4) pa_nil)) pa_nil))) (pa_cons (pv 4) pa_nil)))) (pss_cons (ps_set (i := 5) sc_law.nd rfl (dk rfl) (pe_call (ok_law_bent T) (hr.mono (by decide)) (by rfl) T.g_law_bent T.F_law_bent.kp (bn_law_bent T) .nil pass0 (pa_cons (pv 3) (pa_cons (pv 1) pa_nil)))) (C8.pss_cut (ps_if (pt_cmpR op_eqI (pe_call (ok_law_take T) (hr.mono (by decide)) (by rfl) T.g_law_take T.F_law_take.kp (bn_law_take T) .nil pass0 (pa_cons (pv 3) (pa_cons pe_int pa_nil))) pe_int (nomark _)) (pss_one (ps_set (i := 5) sc_law.nd rfl (dk rfl) (pe_call (ok_law_bent T) (hr.mono (by decide)) (by rfl) T.g_law_bent T.F_law_bent.kp (bn_law_bent T) .nil pass0 (pa_cons (pv 3) (pa_cons (pv 5) pa_nil))))) pss_nil) (pss_one (ps_if (PW.pt (pw_or (pt_not (pt_val (pe_call (ok_law_same_or_none T) (hr.mono (by decide)) (by rfl) T.g_law_same_or_none T.F_law_same_or_none.kp (bn_law_same_or_none T) .nil pass0 (pa_cons (pv 5) pa_nil)))) (pw_or1 (pt_cmpR op_neS (pe_callTy (r := rStrW P w K mg base 10) (cr_strW (hr.mono (by decide))) (by rfl) T.n_str (by decide +kernel) (pa_cons (pe_call (ok_read_pattern T) (hr.mono (by decide)) (by rfl) T.g_read_pattern T.F_read_pattern.kp (bn_read_pattern T) .nil pass0 (pa_cons (pv 1) pa_nil)) pa_nil)) (pv 1) (nomark _))))) (pss_one (ps_ret pe_bl)) pss_nil)))))))) (pss_one (ps_ret pe_bl))))), ?_⟩
    have S : Sx P0 F0 H0 F0 H0 := Sx.refl0 hE
    unfold m_law at hm
    obtain ⟨t1, e2, hm⟩ := bd_some hm
    refine rd_seq ?_
    refine rd_for ?_
    refine rd_iL ?_
    refine rd_call ?_
    refine rd_nil ?_
    refine ⟨F0, t1, rfl, S.sub, e2, fun v6 F3 H4 c5 f7 => ?_⟩
    have S8 := S.call0 c5
    have f__law_script := qC.mono c5.le f__law_script
    refine rd_wLF S8 (f7) (fun p9 vs10 hq11 row12 => ?_)
    obtain ⟨t13, e14, hm⟩ := bd_some hm
    refine rd_forC feedsL (typedRow row12) e14 (fun (s15 : Unit) σ H => ∃ (F : Hp) (o1 : Option V) (o2 : Option V) (o3 : Option V) (o4 : Option V) (o5 : Option V) (o6 : Option V), σ = [some v__law_script, o1, o2, o3, o4, o5, o6] ∧ Sx P0 F3 H4 F H) ?_ ?_ ?_ ?_
    · rintro _ _ _ ⟨_, _, _, _, _, _, _, _, S16⟩
      exact (Same.seq S16.sub (Same.seq S16.le hq11))
    · skip
      have S17 := Sx.refl0 S8.sub
      exact ⟨F3, _, _, _, _, _, _, rfl, S17⟩
    · skip
      rintro x18 v19 s20 c24 σ21 H22 f23 ⟨F25, o27, o28, o29, o30, o31, o32, rfl, S26⟩ hm35 hbk33 hrt34
      have f__law_script := qC.mono S26.le f__law_script
      unfold m_law_b1 at hm35
      cases (show v19 = (V.str (x18)) from f23)
      obtain ⟨t36, e37, hm35⟩ := bd_some hm35
      refine rd_gn ?_
      refine rd_ifS ?_
      refine rd_not ?_
      refine rd_tB ?_
      refine rd_call ?_
      refine rd_cons ?_
      refine rd_v rfl ?_
      refine rd_nil ?_
      refine ⟨F25, _, t36, rfl, S26.sub, e37, fun v41 F38 H39 c40 f42 => ?_⟩
      have S43 := S26.call0 c40
      have f__law_script := qC.mono c40.le f__law_script
      cases (show v41 = (V.bl (t36)) from f42)
      refine rd_b ?_
      refine if_b hm35 (fun b44 hm35 => ?_) (fun b44 hm35 => ?_)
      · skip
        cases hm35
        have e45 := hrt34 _ rfl
        subst e45
        have hm := aft_rt hm
        have S46 := S8.call0 S43
        cases hm
        refine rd_ret ?_
        refine rd_c ?_
        exact hQ _ _ _ S46 rfl
      · skip
        cases hm35
        refine rd_next ?_
        exact ⟨_, rfl, ⟨F38, _, _, _, _, _, _, rfl, S43⟩⟩
    · skip
      rintro s49 σ47 H48 e50 ⟨F51, o53, o54, o55, o56, o57, o58, rfl, S52⟩
      subst e50
      have hm := aft_nx hm
      have S59 := S8.call0 S52
      have f__law_script := qC.mono S52.le f__law_script
      obtain ⟨g60, hm⟩ := gd_some hm
      refine rd_seq ?_
      refine rd_for ?_
      refine rd_iR1 ?_
      refine rd_cons ?_
      refine rd_cb ?_
      refine rd_cons ?_
      refine rd_c ?_
      refine rd_cons ?_
      refine rd_cb ?_
      refine rd_cons ?_
      refine rd_c ?_
      refine rd_cons ?_
      refine rd_cb ?_
      refine rd_cons ?_
      refine rd_v rfl ?_
      refine rd_nil ?_
      refine rd_lenQ (S59.c f__law_script).q ?_
      refine rd_nil ?_
      refine rd_min2 ?_
      refine rd_nil ?_
      refine rd_max2 ?_
      refine rd_nil ?_
      refine rd_r1 g60 ?_
      obtain ⟨t61, e62, hm⟩ := bd_some hm
      refine rd_forC feedsRg (typedR (K := K) (F := F51)) e62 (fun (s63 : Unit) σ H => ∃ (F : Hp) (o1 : Option V) (o2 : Option V) (o3 : Option V) (o4 : Option V) (o5 : Option V) (o6 : Option V), σ = [some v__law_script, o1, o2, o3, o4, o5, o6] ∧ Sx P0 F51 H48 F H) ?_ ?_ ?_ ?_
      · intro _ _ _ _; trivial
      · skip
        have S65 := Sx.refl0 S59.sub
        exact ⟨F51, _, _, _, _, _, _, rfl, S65⟩
      · skip
        rintro x66 v67 s68 c72 σ69 H70 f71 ⟨F73, o75, o76, o77, o78, o79, o80, rfl, S74⟩ hm83 hbk81 hrt82
        have f__law_script := qC.mono S74.le f__law_script
        unfold m_law_b3 at hm83
        cases (show v67 = (V.int (x66)) from f71)
        obtain ⟨t84, e85, hm83⟩ := bd_some hm83
        refine rd_gn ?_
        refine rd_seq ?_
        refine rd_asg ?_
        refine rd_call ?_
        refine rd_cons ?_
        refine rd_v rfl ?_
        refine rd_cons ?_
        refine rd_v rfl ?_
        refine rd_nil ?_
        refine ⟨F73, _, _, _, t84, rfl, S74.sub, f__law_script, e85, fun p89 F86 H87 np90 c88 w91 => ?_⟩
        have z92 := S74.free0 np90
        have S93 := S74.call0 c88
        have f__law_script := qC.mono c88.le f__law_script
        have w94 : Ow P0 H48 _ _ _ _ := ⟨w91.fr, w91.at_, .inl z92⟩
        obtain ⟨t95, e96, hm83⟩ := bd_some hm83
        refine rd_gn ?_
        refine rd_seq ?_
        refine rd_asg ?_
        refine rd_lc ?_
        refine rd_iR1 ?_
        refine rd_cons ?_
        refine rd_op ?_
        refine rd_c ?_
        refine rd_call ?_
        refine rd_cons ?_
        refine rd_v rfl ?_
        refine rd_cons ?_
        refine rd_c ?_
        refine rd_nil ?_
        refine ⟨F86, _, _, _, t95, rfl, S93.sub, w94.arg, e96, fun v100 F97 H98 c99 w102 f101 => ?_⟩
        have S103 := S93.call1 c99 w94
        have f__law_script := qC.mono c99.le f__law_script
        have w104 := w94.back w102
        cases (show v100 = (V.int (t95.1)) from f101)
        obtain ⟨g105, hm83⟩ := gd_some hm83
        refine rd_I0 ?_
        refine rd_nil ?_
        refine rd_r1 g105 ?_
        obtain ⟨g106, hm83⟩ := gd_some hm83
        obtain ⟨t107, e108, hm83⟩ := bd_some hm83
        refine rd_comp (B := (qL qS)) feedsRg (typedR (K := K) (F := F97)) e108 g106 (Pc := (fun a => a = p89)) (fun a z => by rw [z, w104.at_]; exact (fun h => nomatch h)) S103.sub (fun (s109 : (Int × Int)) F H => Ow (fun a => a = p89) H98 F H p89 (.lst [V.int s109.1, V.int s109.2])) ?_ ?_ ?_ ?_ ?_ ?_
        · intro _ _ _ _ _; trivial
        · exact ⟨w104.fr, w104.at_, .inr rfl⟩
        · intro s F H q o w _ hq; exact w.temp hq
        · intro s F H q u o w h0 hq; exact w.putO (ne_of_none w104.at_ h0)
        · skip
          intro x111 v112 s113 o114 F115 H116 d117 acc118 f119 S120 w121 w122 n123 hm124 E125 N126 hN127 hE128
          have f__law_script := qC.mono S120.le f__law_script
          have S129 : Sx (fun a => a = p89) _ _ _ _ := Sx.refl S120.sub (fun a z => by rw [z, w121.at_]; exact (fun h => nomatch h))
          have w130 : Ow (fun a => a = p89) H116 _ _ _ _ := ⟨w121.fr, w121.at_, .inr (rfl)⟩
          unfold m_law_b2 at hm124
          cases (show v112 = (V.int (x111)) from f119)
          obtain ⟨t131, e132, hm124⟩ := bd_some hm124
          refine rd_gn ?_
          refine rd_wp rfl ?_
          refine rd_yes ?_
          refine if_tt ?_
          refine rd_call ?_
          refine rd_cons ?_
          refine rd_v rfl ?_
          refine rd_nil ?_
          refine ⟨F115, _, _, t131, rfl, S129.sub, w130.arg, e132, fun v136 F133 H134 c135 w138 f137 => ?_⟩
          have S139 := S129.call1 c135 w130
          have f__law_script := qC.mono c135.le f__law_script
          have w140 := w130.back w138
          cases hm124
          exact hN127 _ _ _ _ rfl S139 f137 ⟨w140.fr, w140.at_, .inr rfl⟩
        intro p141 us142 F143 H144 n145 c146 w147 w148 r149
        have z150 := S103.free0 n145
        have ne151 : p89 ≠ p141 := w104.ne n145
        have S152 := S103.call1 c146 w104
        have f__law_script := qC.mono c146.le f__law_script
        have w153 : Ow P0 H48 _ _ _ _ := ⟨w147.fr, w147.at_, w104.mine⟩
        have w154 : Ow P0 H48 _ _ _ _ := ⟨w148.fr, w148.at_, .inl z150⟩
        obtain ⟨F155, S156, le157, f158, _, eq159⟩ := fz S152 w154 z150 r149
        have f__law_script := qC.mono le157 f__law_script
        have w153 := w153.fzO ne151 eq159
        obtain ⟨t160, e161, hm83⟩ := bd_some hm83
        refine rd_gn ?_
        refine rd_seq ?_
        refine rd_asg ?_
        refine rd_call ?_
        refine rd_cons ?_
        refine rd_call ?_
        refine rd_cons ?_
        refine rd_v rfl ?_
        refine rd_cons ?_
        refine rd_cb ?_
        refine rd_cons ?_
        refine rd_v rfl ?_
        refine rd_nil ?_
        refine rd_lenQ (S156.l f158).r.q ?_
        refine rd_nil ?_
        refine ⟨F155, _, _, _, t160, rfl, S156.sub, w153.arg, e161, fun v165 F162 H163 c164 w167 f166 => ?_⟩
        have S168 := S156.call1 c164 w153
        have f__law_script := qC.mono c164.le f__law_script
        have f158 := (qL (qL qS)).mono c164.le f158
        have w169 := w153.back w167
        obtain ⟨t170, e171, hm83⟩ := bd_some hm83
        refine rd_cons ?_
        refine rd_v rfl ?_
        refine rd_nil ?_
        refine ⟨F162, _, _, _, _, t170, rfl, S168.sub, f166, f158, e171, fun v175 F172 H173 c174 f176 => ?_⟩
        have S177 := S168.call0 c174
        have f__law_script := qC.mono c174.le f__law_script
        have f158 := (qL (qL qS)).mono c174.le f158
        have w169 := w169.call0 c174
        cases (show v175 = (V.str (t170)) from f176)
        obtain ⟨t178, e179, hm83⟩ := bd_some hm83
        refine rd_gn ?_
        refine rd_seq ?_
        refine rd_asg ?_
        refine rd_call ?_
        refine rd_cons ?_
        refine rd_v rfl ?_
        refine rd_cons ?_
        refine rd_v rfl ?_
        refine rd_nil ?_
        refine ⟨F172, _, _, _, t178, rfl, S177.sub, w169.arg, e179, fun v183 F180 H181 c182 w185 f184 => ?_⟩
        have S186 := S177.call1 c182 w169
        have f__law_script := qC.mono c182.le f__law_script
        have f158 := (qL (qL qS)).mono c182.le f158
        have w187 := w169.back w185
        cases (show v183 = (V.str (t178.1)) from f184)
        obtain ⟨t188, e189, hm83⟩ := bd_some hm83
        refine rd_gn ?_
        refine rd_cut (fun σ' H' => ∃ (F : Hp) (o6 : Option V), σ' = [some v__law_script, some (V.str (t170)), some (V.int (x66)), some (V.ref p89), some (V.ref p141), some (V.str (t188.2)), o6] ∧ Sx (fun a => a = p89) F180 H181 F H' ∧ Ow (fun a => a = p89) H181 F H' p89 (.lst [V.int t188.1.1, V.int t188.1.2])) ?_ ?_
        · skip
          have S190 : Sx (fun a => a = p89) _ _ _ _ := Sx.refl S186.sub (fun a z => by rw [z, w187.at_]; exact (fun h => nomatch h))
          have w191 : Ow (fun a => a = p89) H181 _ _ _ _ := ⟨w187.fr, w187.at_, .inr (rfl)⟩
          obtain ⟨t192, e193, e189⟩ := bd_some e189
          refine rd_ifS ?_
          refine rd_test ?_
          refine rd_op ?_
          refine rd_call ?_
          refine rd_cons ?_
          refine rd_v rfl ?_
          refine rd_cons ?_
          refine rd_c ?_
          refine rd_nil ?_
          refine ⟨F180, _, _, _, t192, rfl, S190.sub, w191.arg, e193, fun v197 F194 H195 c196 w199 f198 => ?_⟩
          have S200 := S190.call1 c196 w191
          have f__law_script := qC.mono c196.le f__law_script
          have f158 := (qL (qL qS)).mono c196.le f158
          have w201 := w191.back w199
          cases (show v197 = (V.int (t192.1)) from f198)
          refine rd_c ?_
          refine rd_I0 ?_
          refine rd_b ?_
          refine if_b e189 (fun b202 e189 => ?_) (fun b202 e189 => ?_)
          · skip
            obtain ⟨t203, e204, e189⟩ := bd_some e189
            refine rd_asg ?_
            refine rd_call ?_
            refine rd_cons ?_
            refine rd_v rfl ?_
            refine rd_cons ?_
            refine rd_v rfl ?_
            refine rd_nil ?_
            refine ⟨F194, _, _, _, t203, rfl, S200.sub, w201.arg, e204, fun v208 F205 H206 c207 w210 f209 => ?_⟩
            have S211 := S200.call1 c207 w201
            have f__law_script := qC.mono c207.le f__law_script
            have f158 := (qL (qL qS)).mono c207.le f158
            have w212 := w201.back w210
            cases (show v208 = (V.str (t203.1)) from f209)
            cases e189
            refine rd_gn ?_
            exact ⟨F205, _, rfl, S211, w212⟩
          · skip
            cases e189
            refine rd_next ?_
            exact ⟨F194, _, rfl, S200, w201⟩
        · skip
          rintro σ214 H213 ⟨F215, o217, rfl, S216, w218⟩
          have S219 := S186.call1 S216 w187
          have f__law_script := qC.mono S216.le f__law_script
          have f158 := (qL (qL qS)).mono S216.le f158
          have w220 : Ow P0 H48 _ _ _ _ := ⟨w218.fr, w218.at_, w187.mine⟩
          obtain ⟨t221, e222, hm83⟩ := bd_some hm83
          refine rd_ifS ?_
          refine rd_or ?_
          refine rd_not ?_
          refine rd_tB ?_
          refine rd_call ?_
          refine rd_cons ?_
          refine rd_v rfl ?_
          refine rd_nil ?_
          refine ⟨F215, _, t221, rfl, S219.sub, e222, fun v226 F223 H224 c225 f227 => ?_⟩
          have S228 := S219.call0 c225
          have f__law_script := qC.mono c225.le f__law_script
          have f158 := (qL (qL qS)).mono c225.le f158
          have w220 := w220.call0 c225
          cases (show v226 = (V.bl (t221)) from f227)
          obtain ⟨t245, e246, hm83⟩ := bd_some hm83
          refine rd_b ?_
          refine or_j (fun c H' => c = t245 ∧ ∃ F', Sx P0 F223 H224 F' H') ?_ ?_ ?_
          · intro b247 Q248 q249
            have e246 := if_f e246 b247
            have S250 := Sx.refl0 S228.sub
            obtain ⟨t251, e252, e246⟩ := bd_some e246
            refine rd_test ?_
            refine rd_op ?_
            refine rd_cb ?_
            refine rd_cons ?_
            refine rd_call ?_
            refine rd_cons ?_
            refine rd_v rfl ?_
            refine rd_nil ?_
            refine ⟨F223, _, t251, rfl, S250.sub, e252, fun v256 F253 H254 c255 f257 => ?_⟩
            have S258 := S250.call0 c255
            have f__law_script := qC.mono c255.le f__law_script
            have f158 := (qL (qL qS)).mono c255.le f158
            have w220 := w220.call0 c255
            refine rd_nil ?_
            refine VM.strW (vm_str T 3) S258 f257 ?_
            obtain ⟨t259, e260, e246⟩ := bd_some e246
            refine ⟨F253, _, _, t259, rfl, S258.sub, f257, rfl, e260, fun v264 F261 H262 c263 f265 => ?_⟩
            have S266 := S258.call0 c263
            have f__law_script := qC.mono c263.le f__law_script
            have f158 := (qL (qL qS)).mono c263.le f158
            have w220 := w220.call0 c263
            cases (show v264 = (V.str (t259)) from f265)
            cases e246
            refine rd_stK ?_
            refine rd_v rfl ?_
            refine rd_S0 ?_
            refine rd_b ?_
            exact q249 _ _ ⟨rfl, F261, S266⟩
          · intro b247
            have e246 := if_t e246 b247
            cases e246
            have S267 := Sx.refl0 S228.sub
            exact ⟨rfl, F223, S267⟩
          rintro b271 H269 ⟨rfl, F268, c270⟩
          have S272 := S228.call0 c270
          have f__law_script := qC.mono c270.le f__law_script
          have f158 := (qL (qL qS)).mono c270.le f158
          have w220 := w220.call0 c270
          refine if_b hm83 (fun b273 hm83 => ?_) (fun b273 hm83 => ?_)
          · skip
            cases hm83
            have e274 := hrt82 _ rfl
            subst e274
            have hm := aft_rt hm
            have S275 := S59.call0 S272
            cases hm
            refine rd_ret ?_
            refine rd_c ?_
            exact hQ _ _ _ S275 rfl
          · skip
            cases hm83
            refine rd_next ?_
            exact ⟨_, rfl, ⟨F268, _, _, _, _, _, _, rfl, S272⟩⟩
      · skip
        rintro s278 σ276 H277 e279 ⟨F280, o282, o283, o284, o285, o286, o287, rfl, S281⟩
        subst e279
        have hm := aft_nx hm
        have S288 := S59.call0 S281
        have f__law_script := qC.mono S281.le f__law_script
        cases hm
        refine rd_ret ?_
        refine rd_c ?_
        exact hQ _ _ _ S288 rfl
end

/-! ### the drawn numbers -/
theorem take_ok {p : Int × Int} {n : Int} (h : 0 < n) (h2 : n < 16000000) : Ok (m_law_take p n) fun r => 0 ≤ r.1 ∧ r.1 < n := by
  unfold m_law_take
  have hm : modOk n = true := modOk_ok h
  have hz : n ≠ 0 := by omega
  refine Ok.ite (fun _ => ?_) fun _ => ?_
  · exact Ok.gd hm (Ok.gd (divOk_ok h (by omega)) (Ok.sm ⟨Int.emod_nonneg _ hz, Int.emod_lt_of_pos _ h⟩))
  · have b1 : 0 ≤ (p.2 * 48271 + 11) % 2147483647 := Int.emod_nonneg _ (by decide)
    have b2 : (p.2 * 48271 + 11) % 2147483647 < 2147483647 := Int.emod_lt_of_pos _ (by decide)
    refine Ok.gd (mulOk_r (by decide) (by decide)) (Ok.gd (by decide) (Ok.gd (mulOk_l ?_ ?_) (Ok.gd (by decide) (Ok.gd (by decide) (Ok.gd hm (Ok.sm ⟨Int.emod_nonneg _ hz, Int.emod_lt_of_pos _ h⟩))))))
    · show -(2 ^ 64) < (p.2 * 48271 + 11) % 2147483647
      omega
    · show (p.2 * 48271 + 11) % 2147483647 < 2 ^ 64
      omega
theorem pool_ok {ns : List Int} {k : Int} (h0 : 0 ≤ k) (h1 : k < 1000) : Ok (m_law_pool ns k) fun _ => True := by
  unfold m_law_pool
  refine Ok.bd (P := fun _ => True) (Ok.gd (shp_lI _) (Ok.gd (shp_lI _) (Ok.ite (fun e => ?_) fun _ => Ok.sm trivial))) fun t _ => ?_
  · have hn : ns ≠ [] := by simpa using e
    have hl : (0 : Int) < (ns.length : Int) := by
      cases ns with
      | nil => exact absurd rfl hn
      | cons x xs => show (0 : Int) < ((xs.length + 1 : Nat) : Int); omega
    refine Ok.gd (modOk_ok hl) ?_
    have b1 : 0 ≤ k % (ns.length : Int) := Int.emod_nonneg _ (by omega)
    have b2 : k % (ns.length : Int) < ns.length := Int.emod_lt_of_pos _ hl
    have hlt : (k % (ns.length : Int)).toNat < ns.length := by omega
    exact Ok.bde (a := ns[(k % (ns.length : Int)).toNat]) (by rw [atI_nn b1 b2]; simp [hlt]) (Ok.sm trivial)
  · have b1 : 0 ≤ t % 2147483629 := Int.emod_nonneg _ (by decide)
    have b2 : t % 2147483629 < 2147483629 := Int.emod_lt_of_pos _ (by decide)
    refine Ok.gd (by decide) (Ok.gd (mulOk_l (by decide) (by decide)) (Ok.gd (mulOk_r (by decide) (by decide)) (Ok.gd (by decide) (Ok.gd (by decide) (Ok.gd (mulOk_r ?_ ?_) (Ok.sm trivial))))))
    · unfold b2I; split <;> decide
    · unfold b2I; split <;> decide

/-! ### texts of the 68 signs -/
abbrev SG : Str := " #-.0123456789:>ABCDEFGHIJKLMNOPQRSTUVWXYZabcdefghijklmnopqrstuvwxyz"
def gs (s : Str) : Prop := ∀ c ∈ cl s, c ∈ cl SG
theorem gs_app {a b : Str} (h : gs a) (k : gs b) : gs (a ++ b) := by
  intro c hc
  rw [cl_app, List.mem_append] at hc
  exact hc.elim (h c) (k c)
theorem gs_sg {c : Nat} (h : c ∈ cl SG) : gs ⟨#[c]⟩ := fun d hd => by
  rw [cl_sg, List.mem_singleton] at hd
  rw [hd]; exact h
theorem gs_ok {s : Str} (h : gs s) : okS s := by
  have e : ∀ c ∈ cl SG, c < 0x110000 := by decide +kernel
  show (s.cps.all (· < 0x110000)) = true
  rw [Array.all_eq_true_iff_forall_mem]
  intro c hc
  exact decide_eq_true (e c (h c (Array.mem_toList_iff.mpr hc)))
theorem gs_nil : gs "" := fun c hc => by
  have e : cl "" = [] := by decide +kernel
  rw [e] at hc
  exact absurd hc List.not_mem_nil
theorem gs_at {s z : Str} {c : Nat} {i : Nat} (h : gs s) (h1 : (cl s)[i]? = some c) (h2 : z = ⟨#[c]⟩) : gs z ∧ z.length = 1 := by
  subst h2
  exact ⟨gs_sg (h c (List.mem_of_getElem? h1)), rfl⟩
theorem gs_SG : gs SG := fun c hc => hc
theorem ix_gs {s : Str} {i : Int} (g : gs s) (h : 0 ≤ i) (h2 : i < s.length) (h3 : s.length ≤ 16000000) : Ok (ixS s i) fun z => gs z ∧ z.length = 1 :=
  (ixS_ok h h2 (Nat.le_trans h3 sizeLine_big)).mono fun z ⟨c, h1, h2⟩ => gs_at g h1 h2
theorem len_app (a b : Str) : (a ++ b).length = a.length + b.length := by rw [cl_len, cl_app, List.length_append, ← cl_len, ← cl_len]
theorem len_nil : ("" : Str).length = 0 := by decide +kernel

/-! ### drawn texts, parts, lines -/
theorem text_ok {p : Int × Int} : Ok (m_law_text p) fun r => gs r.1 ∧ 1 ≤ r.1.length ∧ r.1.length ≤ 4 := by
  unfold m_law_text
  refine Ok.bd (take_ok (by decide) (by decide)) fun t1 _ => Ok.bd (take_ok (by decide) (by decide)) fun t2 h2 => ?_
  refine Ok.gd (rgOk_ok (by omega) (by omega) (by omega) (by omega)) ?_
  refine Ok.bd (Ok.loop (fun pre s => gs s.2 ∧ s.2.length = pre.length) ⟨gs_nil, len_nil⟩ fun pre x post s e ⟨g, l⟩ => ?_) fun s ⟨g, l⟩ => Ok.sm ⟨g, ?_, ?_⟩
  · unfold m_law_text_b1
    have fin : ∀ z : Str, gs z ∧ z.length = 1 → pre.length < 100 → gs (s.2 ++ z) ∧ (s.2 ++ z).length = (pre ++ [x]).length := fun z ⟨gz, lz⟩ _ => ⟨gs_app g gz, by rw [len_app, lz, l]; simp⟩
    have hp : pre.length < 100 := by
      have := congrArg List.length e
      rw [rng_len] at this
      simp at this
      omega
    refine Ok.ite (fun _ => ?_) fun _ => ?_
    · unfold m_law_all_signs
      refine Ok.bde rfl (Ok.bd (take_ok (by decide) (by decide)) fun d hd => Ok.bd (ix_gs gs_SG hd.1 ?_ (by decide +kernel)) fun z hz => Ok.gd (catOk_ok ?_) (Ok.sm (fin z hz hp)))
      · show d.1 < ((68 : Nat) : Int)
        exact hd.2
      · rw [hz.2, l]; omega
    · refine Ok.bd (take_ok (by decide) (by decide)) fun d hd => Ok.bd (ix_gs (s := "a1-b") (fun c hc => ?_) hd.1 ?_ (by decide +kernel)) fun z hz => Ok.gd (catOk_ok ?_) (Ok.sm (fin z hz hp))
      · revert c; decide +kernel
      · show d.1 < ((4 : Nat) : Int)
        exact hd.2
      · rw [hz.2, l]; omega
  · show 1 ≤ s.2.length
    rw [l, rng_len]; omega
  · show s.2.length ≤ 4
    rw [l, rng_len]; omega
abbrev DG : Str := "<digits>"
abbrev WD : Str := "<word>"
abbrev AN : Str := "<any>"
/-- a part as a form has it -/
def part (s : Str) : Prop := s = AN ∨ s = DG ∨ s = WD ∨ (gs s ∧ 1 ≤ s.length ∧ s.length ≤ 4)
theorem part_ok {s : Str} (h : part s) : okS s := by
  rcases h with rfl | rfl | rfl | h
  · show PyData.strOk _ = true; decide +kernel
  · show PyData.strOk _ = true; decide +kernel
  · show PyData.strOk _ = true; decide +kernel
  · exact gs_ok h.1
theorem part_len {s : Str} (h : part s) : 1 ≤ s.length ∧ s.length ≤ 8 := by
  rcases h with rfl | rfl | rfl | h
  · decide +kernel
  · decide +kernel
  · decide +kernel
  · omega
/-! ### matching -/
theorem Ok.wh {S : Type} {c : S → Option (Bool × S)} {f : S → Option S} {Q : S → Prop} (I : S → Prop) (m : S → Nat) (hs : ∀ s, I s → Ok (c s) fun b => (b.1 = false ∧ Q b.2) ∨ (b.1 = true ∧ Ok (f b.2) fun s' => I s' ∧ m s' < m s)) : ∀ (N : Nat) (s : S), I s → m s < N → Ok (whileS c f N s) Q
  | 0, _, _, h => absurd h (Nat.not_lt_zero _)
  | N + 1, s, i, h => by
    obtain ⟨b, e, h1⟩ := hs s i
    show Ok ((c s).bind fun b => if b.1 = true then (f b.2).bind fun s' => whileS c f N s' else some b.2) Q
    rw [e]
    show Ok (if b.1 = true then (f b.2).bind fun s' => whileS c f N s' else some b.2) Q
    rcases h1 with ⟨hb, q⟩ | ⟨hb, h2⟩
    · rw [hb]; exact Ok.sm q
    · rw [hb]
      exact Ok.bd h2 fun s' ⟨i', h3⟩ => Ok.wh I m hs N s' i' (by omega)
theorem AN_ne : ¬ DG = AN ∧ ¬ WD = AN ∧ ¬ WD = DG := by decide +kernel
theorem ite_no {α : Type} {p : Prop} [Decidable p] {x y : α} (h : ¬ p) : (if decide p = true then x else y) = y := if_neg (by rw [decide_eq_false h]; decide)
theorem ite_ya {α : Type} {p : Prop} [Decidable p] {x y : α} (h : p) : (if decide p = true then x else y) = x := if_pos (decide_eq_true h)

open Classical in
/-- the numbers up to all cells that are told -/
noncomputable def told (cs : List Str) (F : Nat → Prop) : List Int := (rng 0 ((cs.length : Int) + 1)).filter fun i => decide (F i.toNat)
/-! ### lines -/
theorem inS_one (x : Str) (c : Nat) : inS ⟨#[c]⟩ x = decide (c ∈ cl x) := StrLaws.found_one x c
def isL (z : Str) : Bool := !decide (z = "") && (sgns z).all fun x => inS x SG
theorem line_loop : ∀ xs : List Str, loopC m_is_line_b1 xs () = some (if (xs.all fun x => inS x SG) = true then .nx () else .rt false)
  | [] => rfl
  | x :: xs => by
    show ((m_is_line_b1 x ()).bind _) = _
    unfold m_is_line_b1
    rw [List.all_cons]
    cases h : inS x SG with
    | false => rfl
    | true =>
      show loopC m_is_line_b1 xs () = _
      rw [line_loop xs]; rfl
theorem is_line_str (z : Str) : m_is_line (Th.d (PyData.str z)) = some (isL z) := by
  unfold m_is_line isL
  show ((if decide (z = "") = true then some false else ((loopC m_is_line_b1 (sgns z) ()).bind fun t23 => aft t23 fun s46 => some true))) = _
  rw [line_loop]
  by_cases h : z = ""
  · rw [if_pos (decide_eq_true h), decide_eq_true h]; rfl
  · rw [if_neg (by rw [decide_eq_false h]; decide), decide_eq_false h]
    cases (sgns z).all fun x => inS x SG <;> rfl
theorem isL_gs {z : Str} (g : gs z) (h : 1 ≤ z.length) : isL z = true := by
  have hn : ¬ z = "" := fun e => by
    have : z.length = 0 := by rw [e]; decide +kernel
    omega
  unfold isL
  rw [decide_eq_false hn]
  show ((sgns z).all fun x => inS x SG) = true
  rw [List.all_eq_true]
  intro x hx
  rw [sgns_cl, List.mem_map] at hx
  obtain ⟨c, hc, rfl⟩ := hx
  rw [inS_one]
  exact decide_eq_true (g c hc)

/-! ### forms that are allowed -/
def fr (t : Str) : Prop := t = AN ∨ t = DG ∨ t = WD
theorem fr_mem {t : Str} : t ∈ ([DG, WD, AN] : List Str) ↔ fr t := by
  unfold fr
  simp only [List.mem_cons, List.not_mem_nil, or_false]
  constructor
  · rintro (h | h | h)
    · exact .inr (.inl h)
    · exact .inr (.inr h)
    · exact .inl h
  · rintro (h | h | h)
    · exact .inr (.inr h)
    · exact .inl h
    · exact .inr (.inl h)
theorem fr_mem2 {t : Str} : t ∈ ([AN, DG, WD] : List Str) ↔ fr t := by
  unfold fr
  simp only [List.mem_cons, List.not_mem_nil, or_false]
/-- a part at its place -/
def okAt (ps : List Str) (k : Nat) (s : Str) : Prop := (s = AN ∧ AN ∉ ps.take k) ∨ s = DG ∨ s = WD ∨ (gs s ∧ 1 ≤ s.length ∧ s.length ≤ 4 ∧ ∀ t, 0 < k → ps[k - 1]? = some t → fr t)
def alw (ps : List Str) : Prop := ∀ k s, ps[k]? = some s → okAt ps k s
theorem alw_part {ps : List Str} (h : alw ps) : ∀ s ∈ ps, part s := by
  intro s hs
  obtain ⟨k, hk⟩ := List.getElem?_of_mem hs
  rcases h k s hk with ⟨e, _⟩ | e | e | ⟨g, l, l2, _⟩
  · exact .inl e
  · exact .inr (.inl e)
  · exact .inr (.inr (.inl e))
  · exact .inr (.inr (.inr ⟨g, l, l2⟩))
theorem okAt_app {ps : List Str} {k : Nat} {s z : Str} (h : k ≤ ps.length) (o : okAt ps k s) : okAt (ps ++ [z]) k s := by
  rcases o with ⟨e, n⟩ | e | e | ⟨g, l, l2, n⟩
  · exact .inl ⟨e, by rw [List.take_append_of_le_length h]; exact n⟩
  · exact .inr (.inl e)
  · exact .inr (.inr (.inl e))
  · refine .inr (.inr (.inr ⟨g, l, l2, fun t h0 ht => n t h0 ?_⟩))
    rw [List.getElem?_append_left (by omega)] at ht
    exact ht
theorem alw_snoc {ps : List Str} {z : Str} (h : alw ps) (o : okAt ps ps.length z) : alw (ps ++ [z]) := by
  intro k s hk
  by_cases hlt : k < ps.length
  · rw [List.getElem?_append_left hlt] at hk
    exact okAt_app (by omega) (h k s hk)
  · rw [List.getElem?_append_right (by omega)] at hk
    have hz : k - ps.length = 0 := by
      apply Classical.byContradiction
      intro hne
      rw [List.getElem?_eq_none (by simp; omega)] at hk
      cases hk
    rw [hz] at hk
    cases hk
    have : k = ps.length := by omega
    subst this
    exact okAt_app (Nat.le_refl _) o
theorem rich_alw {p : Int × Int} : Ok (m_law_rich p) fun r => alw r.1 ∧ 1 ≤ r.1.length ∧ r.1.length ≤ 4 := by
  unfold m_law_rich
  refine Ok.bd (take_ok (by decide) (by decide)) fun t1 h1 => Ok.gd (rgOk_ok (by omega) (by omega) (by omega) (by omega)) ?_
  refine Ok.bd (Ok.loop (fun pre s => alw s.2 ∧ s.2.length = pre.length) ⟨fun k s hk => by simp at hk, rfl⟩ fun pre x post s e ⟨g, l⟩ => ?_) fun s ⟨g, l⟩ => Ok.sm ⟨g, ?_, ?_⟩
  · have hp : pre.length < 100 := by
      have := congrArg List.length e
      rw [rng_len] at this
      simp at this
      omega
    have fin : ∀ z : Str, okAt s.2 s.2.length z → alw (s.2 ++ [z]) ∧ (s.2 ++ [z]).length = (pre ++ [x]).length := fun z hz => ⟨alw_snoc g hz, by simp [l]⟩
    have hf : fits s.2 = true := fits_ok (by omega)
    have gp := alw_part g
    unfold m_law_rich_b1
    refine Ok.bd (take_ok (by decide) (by decide)) fun t2 h2 => Ok.gd (shp_lS fun z hz => part_ok (gp z hz)) (Ok.gd (shp_lS fun z hz => absurd hz List.not_mem_nil) ?_)
    refine Ok.bd (P := fun b => b = false → ∀ t, 0 < s.2.length → s.2[s.2.length - 1]? = some t → fr t) (Ok.ite (fun hn => ?_) fun hn => Ok.sm fun _ t h0 => ?_) fun b hb => ?_
    · have hn : s.2 ≠ [] := by simpa using hn
      obtain ⟨q, z, hq⟩ : ∃ q z, s.2 = q ++ [z] := ⟨s.2.dropLast, s.2.getLast hn, (List.dropLast_concat_getLast hn).symm⟩
      refine Ok.bde (a := z) (by rw [hq]; exact atI_last) (Ok.sm fun hz t h0 ht => ?_)
      have e2 : s.2.length - 1 = q.length := by rw [hq]; simp
      rw [e2, hq, List.getElem?_append_right (Nat.le_refl _), Nat.sub_self] at ht
      cases ht
      have hm : z ∈ ([AN, DG, WD] : List Str) := by
        apply Classical.byContradiction
        intro hne
        rw [decide_eq_false hne] at hz
        cases hz
      exact fr_mem2.mp hm
    · have : s.2 = [] := by simpa using hn
      rw [this] at h0
      exact absurd h0 (by decide)
    · refine Ok.ite (fun hA => Ok.gd hf (Ok.sm (fin _ (.inl ⟨rfl, ?_⟩)))) fun _ => Ok.ite (fun _ => Ok.gd hf (Ok.sm (fin _ (.inr (.inl rfl))))) fun _ => Ok.ite (fun _ => Ok.gd hf (Ok.sm (fin _ (.inr (.inr (.inl rfl)))))) fun hW => ?_
      · have := (Bool.and_eq_true_iff.mp hA).2
        rw [List.take_of_length_le (Nat.le_refl _)]
        simpa using this
      · have hb0 : b = false := (Bool.or_eq_false_iff.mp hW).2
        exact Ok.bd text_ok fun t3 h3 => Ok.gd hf (Ok.sm (fin _ (.inr (.inr (.inr ⟨h3.1, h3.2.1, h3.2.2, hb hb0⟩)))))
  · show 1 ≤ s.2.length
    rw [l, rng_len]; omega
  · show s.2.length ≤ 4
    rw [l, rng_len]; omega
theorem allowed_eq {ps : List Str} (h : alw ps) (hl : ps.length ≤ 4) {k : Nat} (hk : k < ps.length) : m_is_allowed ps (k : Int) = some true := by
  have hs : ps[k]? = some ps[k] := List.getElem?_eq_getElem hk
  have hat : atI ps (k : Int) = some ps[k] := by rw [atI_nn (by omega) (by omega), Int.toNat_natCast]; exact hs
  have ho := h k _ hs
  unfold m_is_allowed
  refine Ok.eq (Ok.bde hat ?_)
  rw [if_neg (by rw [decide_eq_false (show ¬ (4 : Int) ≤ (k : Int) by omega)]; decide)]
  by_cases hA : ps[k] = AN
  · rw [ite_ya hA, cut_to _ (by omega), Int.toNat_natCast]
    refine Ok.sm ?_
    rcases ho with ⟨_, n⟩ | e | e | ⟨g, l, l2, _⟩
    · rw [decide_eq_false n]; rfl
    · rw [hA] at e; exact absurd e.symm AN_ne.1
    · rw [hA] at e; exact absurd e.symm AN_ne.2.1
    · rw [hA] at l2
      exact absurd l2 (by decide +kernel)
  · rw [ite_no hA]
    by_cases hF : ps[k] ∈ ([DG, WD, AN] : List Str)
    · rw [ite_ya hF]; exact Ok.sm rfl
    · rw [ite_no hF]
      rcases ho with ⟨e, _⟩ | e | e | ⟨g, l, l2, n⟩
      · exact absurd e hA
      · exact absurd (fr_mem.mpr (.inr (.inl e))) hF
      · exact absurd (fr_mem.mpr (.inr (.inr e))) hF
      · refine Ok.bd (P := fun t => t = false) ?_ fun t ht => ?_
        · by_cases h0 : (0 : Int) < (k : Int)
          · rw [ite_ya h0]
            have hlt : k - 1 < ps.length := by omega
            have ht : ps[k - 1]? = some ps[k - 1] := List.getElem?_eq_getElem hlt
            refine Ok.bde (a := ps[k - 1]) (by rw [atI_nn (by omega) (by omega), show ((k : Int) - 1).toNat = k - 1 by omega]; exact ht) (Ok.sm ?_)
            rw [decide_eq_true (fr_mem.mpr (n _ (by omega) ht))]; rfl
          · rw [ite_no h0]; exact Ok.sm rfl
        · rw [ht, if_neg (by decide)]
          refine Ok.bde (is_line_str _) ?_
          rw [isL_gs g l, if_pos rfl]
          exact Ok.bde (by rw [gd_true (fitsS_ok (by omega))]) (Ok.sm (decide_eq_true (show ((ps[k].length : Int)) ≤ 4 by omega)))
theorem init_eq {ps : List Str} (h : alw ps) (hl : ps.length ≤ 4) (h1 : 1 ≤ ps.length) : m_Form___init__ ps = some ps := by
  unfold m_Form___init__
  rw [ite_no (show ¬ (ps.length : Int) = 0 by omega), gd_true (rgOk_ok (by omega) (by omega) (by omega) (by omega))]
  refine Ok.eq (Ok.bd (Ok.loop (fun _ _ => True) trivial fun pre x post s e _ => ?_) fun _ _ => Ok.sm rfl)
  obtain ⟨e1, e2, e3, e4⟩ := rng_at e
  unfold m_Form___init___b1
  have hx : x = (x.toNat : Int) := by omega
  rw [hx]
  refine Ok.bde (allowed_eq h hl (by omega)) ?_
  rw [if_neg (by decide)]
  exact Ok.sm trivial
/-! ### states of forms -/
theorem comp_map {α β : Type} {f : α → Unit → Option (Option β × Unit)} (g : α → β) {xs : List α} (h : ∀ x ∈ xs, f x () = some (some (g x), ())) : comp f xs () = some (xs.map g, ()) := by
  rw [comp_pure (g := fun x => some (g x)) h]
  congr 2
  induction xs with
  | nil => rfl
  | cons x xs ih => rw [List.filterMap_cons, List.map_cons, ih fun y hy => h y (List.mem_cons_of_mem _ hy)]
theorem bs {α β : Type} (a : α) (f : α → Option β) : (some a).bind f = f a := rfl
def allForms (fs : List (List Str)) : Prop := fs.length ≤ 100 ∧ ∀ ps ∈ fs, alw ps ∧ 1 ≤ ps.length ∧ ps.length ≤ 4
theorem join_cl (xs : List Str) : cl (Txt.join "" xs) = xs.flatMap cl := by
  have e0 : ("" : Str).cps = #[] := by decide +kernel
  have fold : ∀ (ps : List Str) (acc : Array Nat), (ps.foldl (fun acc p => acc ++ ("" : Str).cps ++ p.cps) acc).toList = acc.toList ++ ps.flatMap cl := by
    intro ps
    induction ps with
    | nil => intro acc; simp
    | cons p ps ih =>
      intro acc
      rw [List.foldl_cons, ih, e0, List.flatMap_cons]
      show (acc ++ #[] ++ p.cps).toList ++ _ = _
      rw [Array.toList_append, Array.toList_append]
      simp [cl]
  cases xs with
  | nil => rfl
  | cons p ps =>
    show (ps.foldl (fun acc p => acc ++ ("" : Str).cps ++ p.cps) p.cps).toList = _
    rw [fold, List.flatMap_cons]; rfl
theorem forms_ne : ∀ a : Pat, 1 ≤ a.forms.length
  | .form _ => Nat.le_refl _
  | .both l r => by
    show 1 ≤ (l.forms ++ r.forms).length
    rw [List.length_append]; have := forms_ne l; omega
  | .either l r => by
    show 1 ≤ (l.forms ++ r.forms).length
    rw [List.length_append]; have := forms_ne l; omega
/-- a pattern whose forms are allowed -/
structure okP (a : Pat) : Prop where
  ht : a.ht ≤ 3
  fs : ∀ ps ∈ a.forms, alw ps ∧ 1 ≤ ps.length ∧ ps.length ≤ 4
  few : a.forms.length ≤ 16
theorem okP.all {a : Pat} (h : okP a) : allForms a.forms := ⟨by have := h.few; omega, h.fs⟩
theorem pat_forms_eq {a : Pat} (h : okP a) : m_pat_forms a = some a.forms := patN_of h.ht h.few
theorem Ok.whC {S ρ : Type} {c : S → Option (Bool × S)} {f : S → Option (Ctl S ρ)} {Q : Ctl S ρ → Prop} (I : S → Prop) (m : S → Nat) (hs : ∀ s, I s → Ok (c s) fun b => (b.1 = false ∧ Q (.nx b.2)) ∨ (b.1 = true ∧ Ok (f b.2) fun c' => (∃ s', c' = .nx s' ∧ I s' ∧ m s' < m s) ∨ (∃ s', c' = .bk s' ∧ Q (.nx s')) ∨ ∃ r, c' = .rt r ∧ Q (.rt r))) : ∀ (N : Nat) (s : S), I s → m s < N → Ok (whileC c f N s) Q
  | 0, _, _, h => absurd h (Nat.not_lt_zero _)
  | N + 1, s, i, h => by
    obtain ⟨b, e, h1⟩ := hs s i
    show Ok ((c s).bind fun b => if b.1 = true then (f b.2).bind fun c' => match c' with
      | .nx s' => whileC c f N s'
      | .bk s' => some (.nx s')
      | .rt r => some (.rt r) else some (.nx b.2)) Q
    rw [e]
    show Ok (if b.1 = true then (f b.2).bind fun c' => match c' with
      | .nx s' => whileC c f N s'
      | .bk s' => some (.nx s')
      | .rt r => some (.rt r) else some (.nx b.2)) Q
    rcases h1 with ⟨hb, q⟩ | ⟨hb, h2⟩
    · rw [hb]; exact Ok.sm q
    · rw [hb]
      refine Ok.bd h2 fun c' h3 => ?_
      rcases h3 with ⟨s', rfl, i', h3⟩ | ⟨s', rfl, q⟩ | ⟨r, rfl, q⟩
      · exact Ok.whC I m hs N s' i' (by omega)
      · exact Ok.sm q
      · exact Ok.sm q
/-! ### drawn shapes -/
inductive ShR : Shp → Nat → Nat → Prop
  | lf (k : Nat) : ShR (.lf k) k 1
  | nd {op : Str} {l r : Shp} {lo a b : Nat} (h : op = "&" ∨ op = "|") (hl : ShR l lo a) (hr : ShR r (lo + a) b) : ShR (.nd op l r) lo (a + b)
def shDep : Shp → Nat
  | .lf _ => 1
  | .nd _ l r => max (shDep l) (shDep r) + 1
theorem ShR.pos {s : Shp} {lo n : Nat} (h : ShR s lo n) : 1 ≤ n := by
  induction h with
  | lf k => exact Nat.le_refl _
  | nd h hl hr i j => omega
theorem ShR.dep_le {s : Shp} {lo n : Nat} (h : ShR s lo n) : shDep s ≤ n := by
  induction h with
  | lf k => exact Nat.le_refl _
  | nd h hl hr i j =>
    have := hl.pos
    have := hr.pos
    show max _ _ + 1 ≤ _
    omega
/-- shapes one behind the other -/
inductive Chn : List Shp → Nat → Nat → Prop
  | nil {lo : Nat} : Chn [] lo lo
  | cons {s : Shp} {l : List Shp} {lo n hi : Nat} (h : ShR s lo n) (t : Chn l (lo + n) hi) : Chn (s :: l) lo hi
theorem Chn.app {A B : List Shp} {lo mid hi : Nat} (h : Chn A lo mid) (k : Chn B mid hi) : Chn (A ++ B) lo hi := by
  induction h with
  | nil => exact k
  | cons h t ih => exact .cons h (ih k)
theorem Chn.split {B : List Shp} {hi : Nat} : ∀ {A : List Shp} {lo : Nat}, Chn (A ++ B) lo hi → ∃ mid, Chn A lo mid ∧ Chn B mid hi
  | [], lo, h => ⟨lo, .nil, h⟩
  | s :: A, lo, .cons h t => by
    obtain ⟨mid, h1, h2⟩ := Chn.split t
    exact ⟨mid, .cons h h1, h2⟩
theorem shape_ok {p : Int × Int} {n : Nat} (h1 : 1 ≤ n) (h2 : n ≤ 100) : Ok (m_law_shape p (n : Int)) fun r => ShR r.1 0 n := by
  unfold m_law_shape
  refine Ok.gd (rgOk_ok (by omega) (by omega) (by omega) (by omega)) (Ok.gd (fitsE_ok (by rw [rng_len]; omega)) ?_)
  refine Ok.bde (comp_map (fun k => Shp.lf k) fun k _ => rfl) ?_
  have start : ∀ (m lo : Nat), Chn ((rng lo ((lo + m : Nat) : Int)).map fun k => Shp.lf k) lo (lo + m) := by
    intro m
    induction m with
    | zero =>
      intro lo
      have e : rng (lo : Int) ((lo + 0 : Nat) : Int) = [] := List.eq_nil_of_length_eq_zero (by rw [rng_len]; omega)
      rw [e]; exact .nil
    | succ m ih =>
      intro lo
      have e : rng (lo : Int) ((lo + (m + 1) : Nat) : Int) = (lo : Int) :: rng ((lo + 1 : Nat) : Int) ((lo + 1 + m : Nat) : Int) := by
        unfold rng
        have e1 : (((lo + (m + 1) : Nat) : Int) - (lo : Int)).toNat = m + 1 := by omega
        have e2 : (((lo + 1 + m : Nat) : Int) - ((lo + 1 : Nat) : Int)).toNat = m := by omega
        rw [e1, e2, List.range_succ_eq_map, List.map_cons, List.map_map]
        rw [show (lo : Int) + ((0 : Nat) : Int) = lo by omega]
        congr 1
        refine List.map_congr_left fun i _ => ?_
        show (lo : Int) + ((i + 1 : Nat) : Int) = ((lo + 1 : Nat) : Int) + (i : Int)
        omega
      rw [e, List.map_cons]
      have := ih (lo + 1)
      have e3 : lo + 1 + m = lo + (m + 1) := by omega
      rw [e3] at this ⊢
      exact .cons (.lf lo) this
  have s0 := start n 0
  rw [Nat.zero_add] at s0
  refine Ok.bd (Ok.wh (Q := fun s => Chn s.2 0 n ∧ s.2.length = 1) (fun s => Chn s.2 0 n ∧ 1 ≤ s.2.length ∧ s.2.length ≤ 100) (fun s => s.2.length) (fun s ⟨c, l1, l2⟩ => ?turn) fuel _ ⟨s0, ?a1, ?a2⟩ ?a3) fun s ⟨c, l⟩ => ?fin
  case turn =>
    unfold m_law_shape_b2
    refine Ok.sm ?_
    show (decide (1 < (s.2.length : Int)) = false ∧ _) ∨ (decide (1 < (s.2.length : Int)) = true ∧ _)
    by_cases hl : 1 < s.2.length
    · refine .inr ⟨decide_eq_true (by omega), ?_⟩
      unfold m_law_shape_b3
      refine Ok.bd (take_ok (by show (0 : Int) < (s.2.length : Int) - 1; omega) (by show (s.2.length : Int) - 1 < _; omega)) fun a ha => Ok.bd (take_ok (by decide) (by decide)) fun o ho => ?_
      have ha2 : a.1 < (s.2.length : Int) - 1 := ha.2
      have op : ∃ z, atI [("&" : Str), ("|" : Str)] o.1 = some z ∧ (z = "&" ∨ z = "|") := by
        have : o.1 = 0 ∨ o.1 = 1 := by omega
        rcases this with e | e <;> rw [e]
        · exact ⟨_, rfl, .inl rfl⟩
        · exact ⟨_, rfl, .inr rfl⟩
      obtain ⟨z, ez, hz⟩ := op
      have i1 : a.1.toNat < s.2.length := by omega
      have i2 : a.1.toNat + 1 < s.2.length := by omega
      have ha1 := ha.1
      have e1 : atI s.2 a.1 = some s.2[a.1.toNat] := by rw [atI_nn ha1 (by omega)]; exact List.getElem?_eq_getElem i1
      have e2 : atI s.2 (a.1 + 1) = some s.2[a.1.toNat + 1] := by rw [atI_nn (by omega) (by omega), show (a.1 + 1).toNat = a.1.toNat + 1 by omega]; exact List.getElem?_eq_getElem i2
      refine Ok.bde ez (Ok.bde e1 (Ok.bde e2 ?_))
      show Ok (gd (fits2 (cut s.2 none (some a.1)) [Shp.nd z s.2[a.1.toNat] s.2[a.1.toNat + 1]]) _) _
      rw [cut_to _ ha.1, cut_from _ (by omega), show (a.1 + 2).toNat = a.1.toNat + 2 by omega]
      have e : s.2 = s.2.take a.1.toNat ++ s.2[a.1.toNat] :: s.2[a.1.toNat + 1] :: s.2.drop (a.1.toNat + 2) := by
        conv => lhs; rw [← List.take_append_drop a.1.toNat s.2]
        rw [List.drop_eq_getElem_cons i1, List.drop_eq_getElem_cons i2]
      have lt : (s.2.take a.1.toNat).length = a.1.toNat := by rw [List.length_take]; omega
      have ld : (s.2.drop (a.1.toNat + 2)).length = s.2.length - (a.1.toNat + 2) := List.length_drop ..
      refine Ok.gd (fits2_ok (by rw [lt, List.length_singleton]; omega)) (Ok.gd (fits2_ok (by rw [List.length_append, lt, List.length_singleton, ld]; omega)) (Ok.sm ⟨⟨?_, ?_, ?_⟩, ?_⟩))
      · have c' : Chn (s.2.take a.1.toNat ++ s.2[a.1.toNat] :: s.2[a.1.toNat + 1] :: s.2.drop (a.1.toNat + 2)) 0 n := by rw [← e]; exact c
        obtain ⟨mid, c1, c2⟩ := c'.split
        cases c2 with
        | cons h t =>
          cases t with
          | cons h' t' =>
            refine (c1.app (.cons (.nd hz h h') .nil)).app ?_
            rw [← Nat.add_assoc]
            exact t'
      · show 1 ≤ (s.2.take a.1.toNat ++ [_] ++ s.2.drop (a.1.toNat + 2)).length
        rw [List.length_append, List.length_append, lt, List.length_singleton]; omega
      · show (s.2.take a.1.toNat ++ [_] ++ s.2.drop (a.1.toNat + 2)).length ≤ 100
        rw [List.length_append, List.length_append, lt, List.length_singleton, ld]; omega
      · show (s.2.take a.1.toNat ++ [_] ++ s.2.drop (a.1.toNat + 2)).length < s.2.length
        rw [List.length_append, List.length_append, lt, List.length_singleton, ld]; omega
    · exact .inl ⟨decide_eq_false (by omega), c, show s.2.length = 1 by omega⟩
  case a1 =>
    show 1 ≤ ((rng 0 (n : Int)).map _).length
    rw [List.length_map, rng_len]
    omega
  case a2 =>
    show ((rng 0 (n : Int)).map _).length ≤ 100
    rw [List.length_map, rng_len]; omega
  case a3 =>
    unfold fuel
    show ((rng 0 (n : Int)).map _).length < 1000000000
    rw [List.length_map, rng_len]
    have : ((n : Int) - 0).toNat = n := by omega
    rw [this]
    omega
  case fin =>
    obtain ⟨x, hx⟩ := List.length_eq_one_iff.mp l
    refine Ok.bde (a := x) (by rw [hx]; rfl) (Ok.sm ?_)
    rw [hx] at c
    cases c with
    | cons h t =>
      cases t
      rw [Nat.zero_add] at *
      exact h
/-- the pattern of a shape -/
def patSh (fs : List (List Str)) : Shp → Pat
  | .lf k => .form ((fs[k.toNat]?).getD [])
  | .nd op l r => if op = "&" then .both (patSh fs l) (patSh fs r) else .either (patSh fs l) (patSh fs r)
theorem patSh_forms {fs : List (List Str)} {s : Shp} {lo n : Nat} (h : ShR s lo n) (hl : lo + n ≤ fs.length) : (patSh fs s).forms = (fs.drop lo).take n := by
  induction h with
  | lf k =>
    show [(fs[(k : Int).toNat]?).getD []] = _
    rw [Int.toNat_natCast, List.getElem?_eq_getElem (by omega), List.drop_eq_getElem_cons (by omega)]
    rfl
  | @nd op l r lo a b h hl' hr i j =>
    have e : (patSh fs (.nd op l r)).forms = (patSh fs l).forms ++ (patSh fs r).forms := by
      show (if op = "&" then Pat.both (patSh fs l) (patSh fs r) else .either (patSh fs l) (patSh fs r)).forms = _
      split <;> rfl
    rw [e, i (by omega), j (by omega), List.take_add, List.drop_drop]
theorem patSh_ht {fs : List (List Str)} {s : Shp} {lo n : Nat} (h : ShR s lo n) : (patSh fs s).ht + 1 ≤ n := by
  induction h with
  | lf k => exact Nat.le_refl _
  | @nd op l r lo a b h hl hr i j =>
    have e : (patSh fs (.nd op l r)).ht = max (patSh fs l).ht (patSh fs r).ht + 1 := by
      show (if op = "&" then Pat.both (patSh fs l) (patSh fs r) else .either (patSh fs l) (patSh fs r)).ht = _
      split <;> rfl
    rw [e]; omega
theorem patSh_ok {fs : List (List Str)} (hf : ∀ ps ∈ fs, alw ps ∧ 1 ≤ ps.length ∧ ps.length ≤ 4) {s : Shp} {lo n : Nat} (h : ShR s lo n) (hl : lo + n ≤ fs.length) (hn : n ≤ 4) : okP (patSh fs s) := by
  have e := patSh_forms h hl
  have ht := patSh_ht (fs := fs) h
  refine ⟨by omega, fun ps hp => ?_, ?_⟩
  · rw [e] at hp
    exact hf ps (List.mem_of_mem_drop (List.mem_of_mem_take hp))
  · rw [e, List.length_take]; omega
theorem amp_ne : ("|" : Str) ≠ "&" := by decide +kernel
/-! ### texts of legal signs and known lengths -/
def lw (s : Str) (n : Nat) : Prop := (∀ c ∈ cl s, c < 1114112) ∧ (cl s).length ≤ n
theorem ok_lw {s : Str} (h : okS s) : ∀ c ∈ cl s, c < 1114112 := by
  intro c hc
  have k : (s.cps.all (· < 0x110000)) = true := h
  rw [Array.all_eq_true_iff_forall_mem] at k
  exact of_decide_eq_true (k c (Array.mem_toList_iff.mp hc))
theorem lw_app {s t : Str} {n m : Nat} (h : lw s n) (k : lw t m) : lw (s ++ t) (n + m) := by
  refine ⟨fun c hc => ?_, ?_⟩
  · rw [cl_app, List.mem_append] at hc
    exact hc.elim (h.1 c) (k.1 c)
  · rw [cl_app, List.length_append]
    exact Nat.add_le_add h.2 k.2

/-! ### the text of a pattern, what a shape shows -/
def pTxt : Pat → Str
  | .form ps => Txt.join ("" : Str) ps
  | .both l r => joinP (" & " : Str) (pTxt l) (pTxt r)
  | .either l r => joinP (" | " : Str) (pTxt l) (pTxt r)
theorem e0len : ("" : Str).length = 0 := by decide +kernel
theorem join_lw {ps : List Str} (h : ∀ p ∈ ps, part p) (hl : ps.length ≤ 4) : joinOk ("" : Str) ps = true ∧ lw (Txt.join ("" : Str) ps) 32 := by
  have fl : ∀ {qs : List Str}, (∀ p ∈ qs, part p) → (qs.flatMap cl).length ≤ 8 * qs.length ∧ (qs.map (·.length)).sum ≤ 8 * qs.length := fun {qs} h => by
    induction qs with
    | nil => exact ⟨Nat.le_refl _, Nat.le_refl _⟩
    | cons q qs ih =>
      obtain ⟨i1, i2⟩ := ih fun p hp => h p (List.mem_cons_of_mem _ hp)
      have := part_len (h q List.mem_cons_self)
      rw [List.flatMap_cons, List.length_append, List.map_cons, List.sum_cons, List.length_cons, ← cl_len]
      omega
  obtain ⟨f1, f2⟩ := fl h
  refine ⟨decide_eq_true (by rw [e0len]; omega), fun c hc => ?_, ?_⟩
  · rw [join_cl] at hc
    obtain ⟨p, hp, hc⟩ := List.mem_flatMap.mp hc
    exact ok_lw (part_ok (h p hp)) c hc
  · rw [join_cl]; omega
theorem joinP_lw {m s t : Str} {a b : Nat} (hm : lw m 3) (hs : lw s a) (ht : lw t b) (hab : a + b ≤ 1000) : joinPok m s t = true ∧ lw (joinP m s t) (a + b + 5) := by
  have c1 : lw ("(" : Str) 1 := ⟨by decide +kernel, by decide +kernel⟩
  have c2 : lw (")" : Str) 1 := ⟨by decide +kernel, by decide +kernel⟩
  have c0 : lw Str.empty 0 := ⟨(fun c hc => nomatch hc), Nat.le_refl _⟩
  have k := lw_app (lw_app (lw_app (lw_app (lw_app c0 c1) hs) hm) ht) c2
  have k2 : lw (joinP m s t) (a + b + 5) := ⟨k.1, Nat.le_trans k.2 (by omega)⟩
  have z : ∀ {u : Str} {n : Nat}, lw u n → n ≤ 2000 → u.length ≤ sizeLine := fun {u n} h hn => by
    rw [sizeLine_eq, cl_len]; have := h.2; omega
  refine ⟨?_, k2⟩
  unfold joinPok
  rw [decide_eq_true (z hs (by omega)), decide_eq_true (z ht (by omega)), decide_eq_true (z k2 (by omega))]
  rfl
theorem amp3 : lw (" & " : Str) 3 ∧ lw (" | " : Str) 3 := ⟨⟨by decide +kernel, by decide +kernel⟩, ⟨by decide +kernel, by decide +kernel⟩⟩
theorem pTxt_ok : ∀ {P : Pat}, (∀ ps ∈ P.forms, alw ps ∧ 1 ≤ ps.length ∧ ps.length ≤ 4) → P.forms.length ≤ 16 → P.str = some (pTxt P) ∧ lw (pTxt P) (37 * P.forms.length - 5)
  | .form ps, h, _ => by
    obtain ⟨a, b, c⟩ := h ps (List.mem_singleton.mpr rfl)
    obtain ⟨j1, j2⟩ := join_lw (alw_part a) c
    refine ⟨?_, j2⟩
    show gd (joinOk ("" : Str) ps) _ = _
    rw [gd_true j1]; rfl
  | .both l r, h, hl => by
    have e : (Pat.both l r).forms.length = l.forms.length + r.forms.length := List.length_append
    obtain ⟨i1, i2⟩ := pTxt_ok (P := l) (fun ps hp => h ps (List.mem_append_left _ hp)) (by omega)
    obtain ⟨j1, j2⟩ := pTxt_ok (P := r) (fun ps hp => h ps (List.mem_append_right _ hp)) (by omega)
    have n1 := forms_ne l
    have n2 := forms_ne r
    obtain ⟨k1, k2⟩ := joinP_lw amp3.1 i2 j2 (by omega)
    refine ⟨?_, k2.1, ?_⟩
    · show (l.str.bind fun x => r.str.bind fun y => gd (joinPok (" & " : Str) x y) (some (joinP (" & " : Str) x y))) = _
      rw [i1, bs, j1, bs, gd_true k1]; rfl
    · have : (cl (pTxt (.both l r))).length ≤ _ := k2.2
      rw [e]; omega
  | .either l r, h, hl => by
    have e : (Pat.either l r).forms.length = l.forms.length + r.forms.length := List.length_append
    obtain ⟨i1, i2⟩ := pTxt_ok (P := l) (fun ps hp => h ps (List.mem_append_left _ hp)) (by omega)
    obtain ⟨j1, j2⟩ := pTxt_ok (P := r) (fun ps hp => h ps (List.mem_append_right _ hp)) (by omega)
    have n1 := forms_ne l
    have n2 := forms_ne r
    obtain ⟨k1, k2⟩ := joinP_lw amp3.2 i2 j2 (by omega)
    refine ⟨?_, k2.1, ?_⟩
    · show (l.str.bind fun x => r.str.bind fun y => gd (joinPok (" | " : Str) x y) (some (joinP (" | " : Str) x y))) = _
      rw [i1, bs, j1, bs, gd_true k1]; rfl
    · have : (cl (pTxt (.either l r))).length ≤ _ := k2.2
      rw [e]; omega
theorem str_eq {P : Pat} (h : okP P) : m_pat___str__ P = some (pTxt P) := (patN_of h.ht h.few).trans (pTxt_ok h.fs h.few).1
theorem cl_amp : cl (" & " : Str) = cl (" " : Str) ++ cl ("&" : Str) ++ cl (" " : Str) ∧ cl (" | " : Str) = cl (" " : Str) ++ cl ("|" : Str) ++ cl (" " : Str) := by decide +kernel
theorem shown_eq {fs : List (List Str)} (hf : ∀ ps ∈ fs, alw ps ∧ 1 ≤ ps.length ∧ ps.length ≤ 4) {s : Shp} {lo n : Nat} (h : ShR s lo n) (hl : lo + n ≤ fs.length) (hn : n ≤ 4) : ∀ m, shDep s ≤ m → m_law_shown m s fs = some (pTxt (patSh fs s)) := by
  induction h with
  | lf k =>
    intro m hm
    obtain ⟨m, rfl⟩ : ∃ q, m = q + 1 := ⟨m - 1, by have : 1 ≤ m := hm; omega⟩
    show (if decide ((1 : Int) = 1) = true then (some (k : Int)).bind _ else _) = _
    rw [ite_ya rfl, bs, atI_nn (by omega) (by omega), Int.toNat_natCast, List.getElem?_eq_getElem (by omega), bs]
    obtain ⟨a, b, c⟩ := hf fs[k] (List.getElem_mem (by omega))
    rw [gd_true (join_lw (alw_part a) c).1]
    show _ = some (Txt.join ("" : Str) ((fs[(k : Int).toNat]?).getD []))
    rw [Int.toNat_natCast, List.getElem?_eq_getElem (by omega)]
    rfl
  | @nd op l r lo a b h hl' hr i j =>
    intro m hm
    have hd : max (shDep l) (shDep r) + 1 ≤ m := hm
    have pa := hl'.pos
    have pb := hr.pos
    obtain ⟨m, rfl⟩ : ∃ q, m = q + 1 := ⟨m - 1, by omega⟩
    show (if decide ((3 : Int) = 1) = true then _ else (some l).bind _) = _
    rw [ite_no (by decide), bs, i (by omega) (by omega) m (by omega), bs]
    have o1 := patSh_ok hf hl' (by omega) (by omega)
    have o2 := patSh_ok hf hr (by omega) (by omega)
    have f1 : (patSh fs l).forms.length = a := by rw [patSh_forms hl' (by omega), List.length_take, List.length_drop]; omega
    have f2 : (patSh fs r).forms.length = b := by rw [patSh_forms hr (by omega), List.length_take, List.length_drop]; omega
    have w1 := (pTxt_ok o1.fs o1.few).2.2
    have w2 := (pTxt_ok o2.fs o2.few).2.2
    rw [f1, ← cl_len] at w1
    rw [f2, ← cl_len] at w2
    generalize hx : pTxt (patSh fs l) = X at *
    generalize hy : pTxt (patSh fs r) = Y at *
    have q1 : ("(" : Str).length = 1 := by decide +kernel
    have q2 : (" " : Str).length = 1 := by decide +kernel
    have q3 : (")" : Str).length = 1 := by decide +kernel
    have q4 : op.length = 1 := by rcases h with e | e <;> rw [e] <;> decide +kernel
    have L : ∀ {s t : Str}, s.length + t.length ≤ 16000000 → catOk s t = true := fun h => catOk_ok h
    rw [gd_true (L (by omega)), gd_true (L (by rw [len_app]; omega))]
    show ((some op).bind _) = _
    rw [bs, gd_true (L (by rw [len_app, len_app]; omega)), gd_true (L (by rw [len_app, len_app, len_app]; omega))]
    show ((some r).bind _) = _
    rw [bs, j (by omega) (by omega) m (by omega), bs, gd_true (L (by rw [len_app, len_app, len_app, len_app]; omega)), gd_true (L (by rw [len_app, len_app, len_app, len_app, len_app]; omega))]
    congr 1
    show _ = pTxt (if op = "&" then Pat.both (patSh fs l) (patSh fs r) else .either (patSh fs l) (patSh fs r))
    rcases h with e | e
    · rw [if_pos e, e]
      show _ = joinP (" & " : Str) (pTxt (patSh fs l)) (pTxt (patSh fs r))
      rw [hx, hy]
      refine cl_inj ?_
      unfold joinP
      simp only [cl_app, cl_amp.1, List.append_assoc]
      rfl
    · rw [if_neg (by rw [e]; exact amp_ne), e]
      show _ = joinP (" | " : Str) (pTxt (patSh fs l)) (pTxt (patSh fs r))
      rw [hx, hy]
      refine cl_inj ?_
      unfold joinP
      simp only [cl_app, cl_amp.2, List.append_assoc]
      rfl
theorem comp_all5 {α β S : Type} {f : α → S → Option (Option β × S)} {P : β → Prop} : ∀ {xs : List α} {s : S}, (∀ x ∈ xs, ∀ s, Ok (f x s) fun o => ∃ y, o.1 = some y ∧ P y) → Ok (comp f xs s) fun r => r.1.length = xs.length ∧ ∀ y ∈ r.1, P y
  | [], s, _ => Ok.sm ⟨rfl, fun y hy => absurd hy List.not_mem_nil⟩
  | x :: xs, s, h => by
    show Ok ((f x s).bind _) _
    refine Ok.bd (h x List.mem_cons_self s) fun o ⟨y, ho, hy⟩ => Ok.bd (comp_all5 fun z hz => h z (List.mem_cons_of_mem _ hz)) fun r ⟨hl, hr⟩ => ?_
    rw [ho]
    refine Ok.sm ⟨by show (y :: r.1).length = _; rw [List.length_cons, hl, List.length_cons], fun z hz => ?_⟩
    rcases List.mem_cons.mp hz with rfl | hz
    · exact hy
    · exact hr z hz

/-! ### signs counted, the sign between two patterns -/
section
abbrev idV {α : Type} (x : Id α) : α := x
open StrLaws in
theorem occ_cnt (x : Str) (c lim : Nat) : ∀ (l : List Nat) (st : Array Nat × Nat), (idV (forIn l st (occBody x ⟨#[c]⟩ x.length lim))).fst.size ≤ st.fst.size + (l.filter fun i => decide ((cl x)[i]? = some c)).length
  | [], st => Nat.le_refl _
  | a :: l, st => by
    rw [List.forIn_cons]
    unfold occBody
    split
    · rename_i hc
      have := occ_cnt x c lim l (st.fst.push a, a + (⟨#[c]⟩ : Str).length)
      have e : (cl x)[a]? = some c := (subAt_one x c a).mp ⟨hc.1.2, hc.2⟩
      rw [List.filter_cons_of_pos (by exact decide_eq_true e), List.length_cons]
      simp only [Array.size_push] at this
      have h2 : (idV (forIn l (st.fst.push a, a + (⟨#[c]⟩ : Str).length) (occBody x ⟨#[c]⟩ x.length lim))).fst.size ≤ st.fst.size + ((l.filter fun i => decide ((cl x)[i]? = some c)).length + 1) := by omega
      exact h2
    · have := occ_cnt x c lim l (st.fst, st.snd)
      have h3 : (l.filter fun i => decide ((cl x)[i]? = some c)).length ≤ ((a :: l).filter fun i => decide ((cl x)[i]? = some c)).length := by
        rw [List.filter_cons]
        split
        · rw [List.length_cons]; omega
        · exact Nat.le_refl _
      have h2 : (idV (forIn l (st.fst, st.snd) (occBody x ⟨#[c]⟩ x.length lim))).fst.size ≤ st.fst.size + ((a :: l).filter fun i => decide ((cl x)[i]? = some c)).length := Nat.le_trans this (Nat.add_le_add_left h3 _)
      exact h2
theorem range_cnt (w : List Nat) (c : Nat) : ∀ (m lo : Nat), ((List.range' lo m).filter fun i => decide (w[i]? = some c)).length ≤ (w.drop lo).count c
  | 0, lo => Nat.zero_le _
  | m + 1, lo => by
    have ih := range_cnt w c m (lo + 1)
    rw [List.range'_succ, List.filter_cons]
    by_cases h : lo < w.length
    · rw [List.drop_eq_getElem_cons h, List.count_cons, List.getElem?_eq_getElem h]
      by_cases e : w[lo] = c
      · rw [if_pos (by rw [e]; exact decide_eq_true rfl), List.length_cons, if_pos (by rw [e]; exact beq_self_eq_true c)]; omega
      · rw [if_neg (fun z => e (Option.some.inj (of_decide_eq_true z)))]
        omega
    · rw [List.getElem?_eq_none (by omega), if_neg (fun z => by cases of_decide_eq_true z)]
      have e1 : w.drop (lo + 1) = [] := List.drop_eq_nil_of_le (by omega)
      have e2 : w.drop lo = [] := List.drop_eq_nil_of_le (by omega)
      rw [e1] at ih
      rw [e2]
      exact ih
theorem count_le (x : Str) (c : Nat) : Txt.count x ⟨#[c]⟩ ≤ ((cl x).count c : Nat) := by
  unfold Txt.count
  rw [StrLaws.occ_eq, Array.length_toList]
  have h1 := occ_cnt x c (x.length + 1) (List.range' 0 (x.length + 1 - 0)) (#[], 0)
  have h2 := range_cnt (cl x) c (x.length + 1 - 0) 0
  rw [List.drop_zero] at h2
  have h3 : ((#[] : Array Nat), 0).fst.size = 0 := rfl
  rw [h3, Nat.zero_add] at h1
  exact Int.ofNat_le.mpr (Nat.le_trans h1 h2)
/-- the text's signs with their places -/
def enF : Nat → List Nat → List (Int × Str)
  | _, [] => []
  | k, c :: w => ((k : Int), ⟨#[c]⟩) :: enF (k + 1) w
theorem enF_app : ∀ (u v : List Nat) (k : Nat), enF k (u ++ v) = enF k u ++ enF (k + u.length) v
  | [], v, k => rfl
  | c :: u, v, k => by
    show _ :: enF (k + 1) (u ++ v) = _ :: (enF (k + 1) u ++ enF (k + (u.length + 1)) v)
    rw [enF_app u v (k + 1), show k + 1 + u.length = k + (u.length + 1) by omega]
theorem enF_len : ∀ (w : List Nat) (k : Nat), (enF k w).length = w.length
  | [], _ => rfl
  | c :: w, k => by show (enF (k + 1) w).length + 1 = w.length + 1; rw [enF_len w]
theorem enF_at : ∀ (w : List Nat) (k i c : Nat), w[i]? = some c → (enF k w)[i]? = some (((k + i : Nat) : Int), ⟨#[c]⟩)
  | [], _, _, _, h => by simp at h
  | d :: w, k, 0, c, h => by cases h; rfl
  | d :: w, k, i + 1, c, h => by
    have := enF_at w (k + 1) i c h
    rw [show k + 1 + i = k + (i + 1) by omega] at this
    exact this
theorem enum_enF (z : Str) : enumI (sgns z) = enF 0 (cl z) := by
  refine List.ext_getElem? fun i => ?_
  by_cases h : i < (cl z).length
  · have e : z.cps[i]? = some (cl z)[i] := by
      have := List.getElem?_eq_getElem h
      rw [← this]; exact Array.getElem?_toList.symm
    rw [enF_at (cl z) 0 i _ (List.getElem?_eq_getElem h), Nat.zero_add]
    exact enumI_at (sgns_at e)
  · rw [List.getElem?_eq_none (by rw [enumI_len]; unfold sgns; rw [List.length_map]; exact Nat.le_of_not_lt h), List.getElem?_eq_none (by rw [enF_len]; exact Nat.le_of_not_lt h)]
theorem loopS_app {α S : Type} {f : α → S → Option S} : ∀ (xs ys : List α) (s : S), loopS f (xs ++ ys) s = (loopS f xs s).bind fun s' => loopS f ys s'
  | [], ys, s => rfl
  | x :: xs, ys, s => by
    show (f x s).bind (fun s' => loopS f (xs ++ ys) s') = ((f x s).bind fun s' => loopS f xs s').bind _
    cases f x s with
    | none => rfl
    | some s' => exact loopS_app xs ys s'
/-- no sign of a joined pattern -/
def flat (w : List Nat) : Prop := ∀ c ∈ w, c ≠ 40 ∧ c ≠ 41 ∧ c ≠ 38 ∧ c ≠ 124
theorem one_str {c d : Nat} : (⟨#[c]⟩ : Str) = ⟨#[d]⟩ ↔ c = d := by
  constructor
  · intro h
    have := congrArg cl h
    exact (List.cons.inj (show [c] = [d] from this)).1
  · rintro rfl; rfl
theorem lit_signs : ("(" : Str) = ⟨#[40]⟩ ∧ (")" : Str) = ⟨#[41]⟩ ∧ cl ("&|" : Str) = [38, 124] ∧ ("&" : Str) = ⟨#[38]⟩ ∧ ("|" : Str) = ⟨#[124]⟩ ∧ (" " : Str) = ⟨#[32]⟩ := by decide +kernel
theorem mid_b1 {k : Int} {c : Nat} {s : List Int × Int} (hf : s.1.length ≤ 1000) : m_middle_of_b1 (k, ⟨#[c]⟩) s = some (if c = 40 then (s.1, s.2 + 1) else if c = 41 then (s.1, s.2 - 1) else if (c = 38 ∨ c = 124) ∧ s.2 = 0 then (s.1 ++ [k], s.2) else (s.1, s.2)) := by
  unfold m_middle_of_b1
  dsimp only
  rw [lit_signs.1, lit_signs.2.1]
  by_cases e1 : c = 40
  · rw [if_pos (decide_eq_true (one_str.mpr e1)), if_pos e1]
  · rw [if_neg (fun z => e1 (one_str.mp (of_decide_eq_true z))), if_neg e1]
    by_cases e2 : c = 41
    · rw [if_pos (decide_eq_true (one_str.mpr e2)), if_pos e2]
    · rw [if_neg (fun z => e2 (one_str.mp (of_decide_eq_true z))), if_neg e2, inS_one, lit_signs.2.2.1]
      have m : c ∈ ([38, 124] : List Nat) ↔ c = 38 ∨ c = 124 := by simp
      by_cases e3 : (c = 38 ∨ c = 124) ∧ s.2 = 0
      · rw [if_pos e3, if_pos (by rw [Bool.and_eq_true]; exact ⟨decide_eq_true (m.mpr e3.1), decide_eq_true e3.2⟩), gd_true (fits_ok (by omega))]
      · rw [if_neg e3, if_neg (fun z => by
          rw [Bool.and_eq_true] at z
          exact e3 ⟨m.mp (of_decide_eq_true z.1), of_decide_eq_true z.2⟩)]
theorem mid_flat : ∀ (w : List Nat) (k : Nat) (s : List Int × Int), flat w → s.1.length ≤ 1000 → loopS m_middle_of_b1 (enF k w) s = some s
  | [], k, s, _, _ => rfl
  | c :: w, k, s, h, hf => by
    obtain ⟨h1, h2, h3, h4⟩ := h c List.mem_cons_self
    show (m_middle_of_b1 ((k : Int), ⟨#[c]⟩) s).bind _ = _
    rw [mid_b1 hf, if_neg h1, if_neg h2, if_neg (fun z => z.1.elim h3 h4), bs]
    exact mid_flat w (k + 1) s (fun d hd => h d (List.mem_cons_of_mem _ hd)) hf
theorem mid_one {k c : Nat} {s : List Int × Int} (hf : s.1.length ≤ 1000) : loopS m_middle_of_b1 (enF k [c]) s = some (if c = 40 then (s.1, s.2 + 1) else if c = 41 then (s.1, s.2 - 1) else if (c = 38 ∨ c = 124) ∧ s.2 = 0 then (s.1 ++ [(k : Int)], s.2) else (s.1, s.2)) := by
  show (m_middle_of_b1 ((k : Int), ⟨#[c]⟩) s).bind _ = _
  rw [mid_b1 hf, bs]; rfl
theorem sg_flat : flat (cl SG) ∧ flat (cl AN) ∧ flat (cl DG) ∧ flat (cl WD) := by unfold flat; decide +kernel
theorem part_flat {s : Str} (h : part s) : flat (cl s) := by
  rcases h with rfl | rfl | rfl | ⟨g, _, _⟩
  · exact sg_flat.2.1
  · exact sg_flat.2.2.1
  · exact sg_flat.2.2.2
  · exact fun c hc => sg_flat.1 c (g c hc)
theorem join_flat {ps : List Str} (h : ∀ s ∈ ps, part s) : flat (cl (Txt.join ("" : Str) ps)) := fun c hc => by
  rw [join_cl] at hc
  obtain ⟨s, hs, hc⟩ := List.mem_flatMap.mp hc
  exact part_flat (h s hs) c hc
/-- the signs of a joined pattern's text -/
theorem joinP_cl {op X Y : Str} (o : Nat) (ho : cl op = [32, o, 32]) : cl (joinP op X Y) = [40] ++ (cl X ++ ([32] ++ ([o] ++ ([32] ++ (cl Y ++ [41]))))) := by
  unfold joinP
  simp only [cl_app, ho]
  have e : cl Str.empty = [] ∧ cl ("(" : Str) = [40] ∧ cl (")" : Str) = [41] := by decide +kernel
  rw [e.1, e.2.1, e.2.2]
  simp only [List.nil_append, List.append_assoc, List.cons_append]
theorem op_cl : cl (" & " : Str) = [32, 38, 32] ∧ cl (" | " : Str) = [32, 124, 32] := by decide +kernel
/-- nothing of a whole pattern's text is the middle -/
theorem mid_pat : ∀ (P : Pat), (∀ ps ∈ P.forms, ∀ s ∈ ps, part s) → ∀ (k : Nat) (s : List Int × Int), 0 ≤ s.2 → s.1.length ≤ 1000 → loopS m_middle_of_b1 (enF k (cl (pTxt P))) s = some s
  | .form ps, h, k, s, _, hf => mid_flat _ k s (join_flat (h ps List.mem_cons_self)) hf
  | .both l r, h, k, s, h0, hf => by
    have hl := mid_pat l (fun ps hp => h ps (List.mem_append_left _ hp))
    have hr := mid_pat r (fun ps hp => h ps (List.mem_append_right _ hp))
    show loopS m_middle_of_b1 (enF k (cl (joinP (" & " : Str) (pTxt l) (pTxt r)))) s = some s
    rw [joinP_cl 38 op_cl.1]
    simp only [enF_app, loopS_app]
    rw [mid_one hf, if_pos rfl, bs, hl _ (s.1, s.2 + 1) (by show 0 ≤ s.2 + 1; omega) hf, bs, mid_one (s := (s.1, s.2 + 1)) hf, if_neg (by decide), if_neg (by decide), if_neg (fun z => absurd z.1 (by decide)), bs, mid_one (s := (s.1, s.2 + 1)) hf, if_neg (by decide), if_neg (by decide), if_neg (fun z => by have : s.2 + 1 = 0 := z.2; omega), bs,
      mid_one (s := (s.1, s.2 + 1)) hf, if_neg (by decide), if_neg (by decide), if_neg (fun z => absurd z.1 (by decide)), bs, hr _ (s.1, s.2 + 1) (by show 0 ≤ s.2 + 1; omega) hf, bs, mid_one (s := (s.1, s.2 + 1)) hf, if_neg (by decide), if_pos rfl]
    show some (s.1, s.2 + 1 - 1) = some s
    rw [show s.2 + 1 - 1 = s.2 by omega]
  | .either l r, h, k, s, h0, hf => by
    have hl := mid_pat l (fun ps hp => h ps (List.mem_append_left _ hp))
    have hr := mid_pat r (fun ps hp => h ps (List.mem_append_right _ hp))
    show loopS m_middle_of_b1 (enF k (cl (joinP (" | " : Str) (pTxt l) (pTxt r)))) s = some s
    rw [joinP_cl 124 op_cl.2]
    simp only [enF_app, loopS_app]
    rw [mid_one hf, if_pos rfl, bs, hl _ (s.1, s.2 + 1) (by show 0 ≤ s.2 + 1; omega) hf, bs, mid_one (s := (s.1, s.2 + 1)) hf, if_neg (by decide), if_neg (by decide), if_neg (fun z => absurd z.1 (by decide)), bs, mid_one (s := (s.1, s.2 + 1)) hf, if_neg (by decide), if_neg (by decide), if_neg (fun z => by have : s.2 + 1 = 0 := z.2; omega), bs,
      mid_one (s := (s.1, s.2 + 1)) hf, if_neg (by decide), if_neg (by decide), if_neg (fun z => absurd z.1 (by decide)), bs, hr _ (s.1, s.2 + 1) (by show 0 ≤ s.2 + 1; omega) hf, bs, mid_one (s := (s.1, s.2 + 1)) hf, if_neg (by decide), if_pos rfl]
    show some (s.1, s.2 + 1 - 1) = some s
    rw [show s.2 + 1 - 1 = s.2 by omega]
/-- the middle of two patterns -/
theorem middle_ok {l r : Pat} (hl : ∀ ps ∈ l.forms, ∀ s ∈ ps, part s) (hr : ∀ ps ∈ r.forms, ∀ s ∈ ps, part s) {z : Str} {o : Nat} (ho : o = 38 ∨ o = 124) (e : cl z = cl (pTxt l) ++ ([32] ++ ([o] ++ ([32] ++ cl (pTxt r))))) :
    m_middle_of z = some (some (((cl (pTxt l)).length : Int) + 1)) := by
  unfold m_middle_of
  have h0 : (([] : List Int), (0 : Int)).1.length ≤ 1000 := Nat.zero_le _
  have n1 : ∀ k : Int, ([k] : List Int).length ≤ 1000 := fun _ => by show 1 ≤ 1000; decide
  have no : ∀ c : Nat, o ≠ 40 ∧ o ≠ 41 := fun _ => by rcases ho with e | e <;> rw [e] <;> decide
  have lp : loopS m_middle_of_b1 (enumI (sgns z)) (([] : List Int), 0) = some ([(((cl (pTxt l)).length + 1 : Nat) : Int)], 0) := by
    rw [enum_enF, e]
    simp only [enF_app, loopS_app]
    rw [mid_pat l hl 0 (([] : List Int), (0 : Int)) (Int.le_refl _) h0, bs, mid_one h0, if_neg (by decide), if_neg (by decide), if_neg (fun z => absurd z.1 (by decide)), bs, mid_one h0, if_neg (no 0).1, if_neg (no 0).2, if_pos ⟨ho, rfl⟩, bs,
      mid_one (n1 _), if_neg (by decide), if_neg (by decide), if_neg (fun z => absurd z.1 (by decide)), bs, mid_pat r hr _ _ (Int.le_refl _) (n1 _)]
    simp
  rw [lp, bs]
  show (Option.bind (if decide ((1 : Int) = 1) = true then _ else _) _) = _
  rw [if_pos (decide_eq_true rfl)]
  show some (some (((cl (pTxt l)).length + 1 : Nat) : Int)) = _
  rw [show (((cl (pTxt l)).length + 1 : Nat) : Int) = ((cl (pTxt l)).length : Int) + 1 by omega]
theorem count_pat : ∀ (P : Pat), (∀ ps ∈ P.forms, ∀ s ∈ ps, part s) → (cl (pTxt P)).count 40 + 1 ≤ P.forms.length
  | .form ps, h => by
    have : (cl (pTxt (.form ps))).count 40 = 0 := List.count_eq_zero.mpr fun z => (join_flat (h ps List.mem_cons_self) 40 z).1 rfl
    rw [this]; exact Nat.le_refl _
  | .both l r, h => by
    have hl := count_pat l (fun ps hp => h ps (List.mem_append_left _ hp))
    have hr := count_pat r (fun ps hp => h ps (List.mem_append_right _ hp))
    show (cl (joinP (" & " : Str) (pTxt l) (pTxt r))).count 40 + 1 ≤ (l.forms ++ r.forms).length
    rw [joinP_cl 38 op_cl.1, List.length_append]
    simp only [List.count_append]
    have e : ([40] : List Nat).count 40 = 1 ∧ ([32] : List Nat).count 40 = 0 ∧ ([38] : List Nat).count 40 = 0 ∧ ([41] : List Nat).count 40 = 0 := by decide
    rw [e.1, e.2.1, e.2.2.1, e.2.2.2]; omega
  | .either l r, h => by
    have hl := count_pat l (fun ps hp => h ps (List.mem_append_left _ hp))
    have hr := count_pat r (fun ps hp => h ps (List.mem_append_right _ hp))
    show (cl (joinP (" | " : Str) (pTxt l) (pTxt r))).count 40 + 1 ≤ (l.forms ++ r.forms).length
    rw [joinP_cl 124 op_cl.2, List.length_append]
    simp only [List.count_append]
    have e : ([40] : List Nat).count 40 = 1 ∧ ([32] : List Nat).count 40 = 0 ∧ ([124] : List Nat).count 40 = 0 ∧ ([41] : List Nat).count 40 = 0 := by decide
    rw [e.1, e.2.1, e.2.2.1, e.2.2.2]; omega
end
/-! ### the parts of a form's text -/
section
theorem sw3 (z y : Str) (i : Nat) : Txt.startswith3 z y (i : Int) = decide (i + y.length ≤ z.length ∧ ((cl z).drop i).take y.length = cl y) := by
  unfold Txt.startswith3
  have e : PySem.fromIndex z.length (i : Int) = i := by
    unfold PySem.fromIndex
    rw [if_neg (by omega)]
    omega
  rw [e, StrLaws.subAt_eq]
  rw [Bool.eq_iff_iff, Bool.and_eq_true, decide_eq_true_eq, decide_eq_true_eq, beq_iff_eq]
  exact Iff.rfl
theorem fr_signs : (cl DG)[0]? = some 60 ∧ (cl WD)[0]? = some 60 ∧ (cl AN)[0]? = some 60 ∧ (cl DG)[1]? = some 100 ∧ (cl WD)[1]? = some 119 ∧ (cl AN)[1]? = some 97 ∧ DG.length = 8 ∧ WD.length = 6 ∧ AN.length = 5 := by decide +kernel
theorem sg60 : ¬ 60 ∈ cl SG := by decide +kernel
theorem fr_ne {s : Str} (h : fr s) : s ≠ ("" : Str) ∧ (cl s)[0]? = some 60 := by
  rcases h with rfl | rfl | rfl
  · exact ⟨by decide +kernel, fr_signs.2.2.1⟩
  · exact ⟨by decide +kernel, fr_signs.1⟩
  · exact ⟨by decide +kernel, fr_signs.2.1⟩
theorem gs_nfr {s : Str} (g : gs s) : ¬ fr s := fun h => by
  have e := (fr_ne h).2
  exact sg60 (g 60 (List.mem_of_getElem? e))
theorem sw_at (e : (cl z).drop i = cl p ++ r) {y : Str} (h : Txt.startswith3 z y (i : Int) = true) (j : Nat) (hj : j < y.length) : (cl p ++ r)[j]? = (cl y)[j]? := by
  rw [sw3, decide_eq_true_eq] at h
  rw [← h.2, e, List.getElem?_take_of_lt hj]
theorem sw_self (e : (cl z).drop i = cl p ++ r) (h1 : 1 ≤ p.length) : Txt.startswith3 z p (i : Int) = true := by
  rw [sw3, decide_eq_true_eq]
  have l := congrArg List.length e
  rw [List.length_drop, List.length_append, ← cl_len, ← cl_len] at l
  refine ⟨by omega, ?_⟩
  rw [e, cl_len p]
  exact List.take_left' rfl
theorem found_loop (g : Str → Bool) (f : Str → Str → Option Str) (hf : ∀ x s, f x s = if g x = true then some x else some s) : loopS f ([DG, WD, AN] : List Str) ("" : Str) = some (if g AN = true then AN else if g WD = true then WD else if g DG = true then DG else ("" : Str)) := by
  show (f DG "").bind (fun s1 => (f WD s1).bind fun s2 => (f AN s2).bind fun s3 => some s3) = _
  cases h1 : g DG <;> cases h2 : g WD <;> cases h3 : g AN <;> simp [hf, h1, h2, h3]
theorem found_fr (e : (cl z).drop i = cl p ++ r) (h : fr p) : loopS (m_parts_of_b2 z (s, (i : Int))) ([DG, WD, AN] : List Str) ("" : Str) = some p := by
  rw [found_loop (fun x => Txt.startswith3 z x (i : Int)) (m_parts_of_b2 z (s, (i : Int))) fun x s => rfl]
  obtain ⟨a1, a2, a3, b1, b2, b3, l1, l2, l3⟩ := fr_signs
  have no : ∀ {y : Str} {c d : Nat}, (cl p)[1]? = some c → (cl y)[1]? = some d → c ≠ d → 1 < y.length → ¬ Txt.startswith3 z y (i : Int) = true := fun {y c d} hc hd ne hl q => by
    have := sw_at e q 1 hl
    rw [hd, List.getElem?_append_left (List.getElem?_eq_some_iff.mp hc).1, hc] at this
    exact ne (Option.some.inj this)
  rcases h with rfl | rfl | rfl
  · rw [if_pos (sw_self e (by omega))]
  · rw [if_neg (no b1 b3 (by decide) (by omega)), if_neg (no b1 b2 (by decide) (by omega)), if_pos (sw_self e (by omega))]
  · rw [if_neg (no b2 b3 (by decide) (by omega)), if_pos (sw_self e (by omega))]
theorem found_gs (e : (cl z).drop i = cl p ++ r) (g : gs p) (h1 : 1 ≤ p.length) : loopS (m_parts_of_b2 z (s, (i : Int))) ([DG, WD, AN] : List Str) ("" : Str) = some ("" : Str) := by
  rw [found_loop (fun x => Txt.startswith3 z x (i : Int)) (m_parts_of_b2 z (s, (i : Int))) fun x s => rfl]
  have hc : (cl p)[0]? = some ((cl p)[0]'(by rw [← cl_len]; omega)) := List.getElem?_eq_getElem _
  have no : ∀ {y : Str}, (cl y)[0]? = some 60 → 1 < y.length → ¬ Txt.startswith3 z y (i : Int) = true := fun {y} hy hl q => by
    have := sw_at e q 0 (by omega)
    rw [hy, List.getElem?_append_left (by rw [← cl_len]; omega)] at this
    exact sg60 (g 60 (List.mem_of_getElem? this))
  obtain ⟨a1, a2, a3, b1, b2, b3, l1, l2, l3⟩ := fr_signs
  rw [if_neg (no a3 (by omega)), if_neg (no a2 (by omega)), if_neg (no a1 (by omega))]
theorem ix_at {k c : Nat} (hz : z.length ≤ 1000) (h : (cl z)[k]? = some c) : ixS z (k : Int) = some ⟨#[c]⟩ := by
  unfold ixS
  have hk : k < (cl z).length := (List.getElem?_eq_some_iff.mp h).1
  rw [gd_true (fitsS_ok (by omega)), atI_nn (by omega) (by show (k : Int) < ((cl z).length : Int); omega), Int.toNat_natCast]
  show ((cl z)[k]?).bind _ = _
  rw [h]; rfl
theorem end_fr {n : Nat} {f : Str} (hf : f ≠ ("" : Str)) : whileS (m_parts_of_b3 z f) m_parts_of_b4 (n + 1) (i : Int) = some (i : Int) := by
  show (m_parts_of_b3 z f (i : Int)).bind _ = _
  unfold m_parts_of_b3
  rw [if_neg (fun q => hf (of_decide_eq_true q)), bs, bs]
  rfl
theorem end_gs (hz : z.length ≤ 1000) (g : gs p) (e : (cl z).drop i = cl p ++ r) (hr : ∀ c, r[0]? = some c → c ∉ cl SG) : ∀ (j n : Nat), j ≤ p.length → p.length - j < n → whileS (m_parts_of_b3 z ("" : Str)) m_parts_of_b4 n (((i + j : Nat) : Int)) = some (((i + p.length : Nat) : Int)) := by
  have l := congrArg List.length e
  rw [List.length_drop, List.length_append, ← cl_len, ← cl_len] at l
  have at_ : ∀ k, (cl z)[i + k]? = (cl p ++ r)[k]? := fun k => by rw [← e, List.getElem?_drop]
  intro j
  have go : ∀ (d j n : Nat), p.length - j = d → j ≤ p.length → d < n → whileS (m_parts_of_b3 z ("" : Str)) m_parts_of_b4 n (((i + j : Nat) : Int)) = some (((i + p.length : Nat) : Int)) := by
    intro d
    induction d with
    | zero =>
      intro j n hd hj hn
      have ej : j = p.length := by omega
      subst ej
      obtain ⟨n, rfl⟩ : ∃ m, n = m + 1 := ⟨n - 1, by omega⟩
      show (m_parts_of_b3 z ("" : Str) (((i + p.length : Nat) : Int))).bind _ = _
      unfold m_parts_of_b3
      rw [if_pos (decide_eq_true rfl), gd_true (fitsS_ok (by omega))]
      by_cases hl : i + p.length < z.length
      · rw [if_pos (decide_eq_true (by omega))]
        have hc : (cl z)[i + p.length]? = some ((cl z)[i + p.length]'(by rw [← cl_len]; omega)) := List.getElem?_eq_getElem _
        have hr0 : r[0]? = (cl z)[i + p.length]? := by rw [at_, cl_len p, List.getElem?_append_right (Nat.le_refl _), Nat.sub_self]
        have nc := hr _ (hr0.trans hc)
        rw [ix_at hz hc, bs, inS_one]
        show (Option.bind (Option.bind (some (decide (_ ∈ cl SG))) _) _) = _
        rw [decide_eq_false nc]; rfl
      · rw [if_neg (fun q => hl (by have := of_decide_eq_true q; omega))]; rfl
    | succ d ih =>
      intro j n hd hj hn
      obtain ⟨n, rfl⟩ : ∃ m, n = m + 1 := ⟨n - 1, by omega⟩
      show (m_parts_of_b3 z ("" : Str) (((i + j : Nat) : Int))).bind _ = _
      unfold m_parts_of_b3
      have hj2 : j < (cl p).length := by rw [← cl_len]; omega
      have hc : (cl z)[i + j]? = some (cl p)[j] := by rw [at_, List.getElem?_append_left hj2]; exact List.getElem?_eq_getElem hj2
      rw [if_pos (decide_eq_true rfl), gd_true (fitsS_ok (by omega)), if_pos (decide_eq_true (by omega)), ix_at hz hc, bs, inS_one]
      show (Option.bind (Option.bind (Option.bind (some (decide (_ ∈ cl SG))) _) _) _) = _
      rw [decide_eq_true (g _ (List.getElem_mem hj2))]
      show whileS (m_parts_of_b3 z ("" : Str)) m_parts_of_b4 n (((i + j : Nat) : Int) + 1) = _
      rw [show (((i + j : Nat) : Int) + 1) = (((i + (j + 1) : Nat) : Int)) by omega]
      exact ih (j + 1) n (by omega) (by omega) (by omega)
  intro n hj hn
  exact go _ j n rfl hj hn
theorem cut_part (e : (cl z).drop i = cl p ++ r) : cutS z (some (i : Int)) (some ((i + p.length : Nat) : Int)) = p := by
  refine cl_inj ?_
  have l := congrArg List.length e
  rw [List.length_drop, List.length_append, ← cl_len, ← cl_len] at l
  rw [cl_cut, cut_mid (cl z) (by omega) (by omega), Int.toNat_natCast, Int.toNat_natCast, e, show i + p.length - i = p.length by omega, cl_len p]
  exact List.take_left' rfl
theorem part_step {acc : List Str} (hz : z.length ≤ 1000) (ha : acc.length ≤ 100) (e : (cl z).drop i = cl p ++ r) (hp : fr p ∨ gs p ∧ 1 ≤ p.length ∧ ∀ c, r[0]? = some c → c ∉ cl SG) : m_parts_of_b5 z (acc, (i : Int)) = some (.nx (acc ++ [p], ((i + p.length : Nat) : Int))) := by
  have l := congrArg List.length e
  rw [List.length_drop, List.length_append, ← cl_len, ← cl_len] at l
  unfold m_parts_of_b5
  rcases hp with h | ⟨g, h1, hr⟩
  · have ne := (fr_ne h).1
    rw [found_fr e h, bs]
    show (whileS (m_parts_of_b3 z p) m_parts_of_b4 fuel (i : Int)).bind _ = _
    rw [show fuel = (fuel - 1) + 1 from rfl, end_fr ne, bs, if_neg (by rw [decide_eq_false ne, Bool.false_and]; decide), if_neg (fun q => ne (of_decide_eq_true q)), bs, gd_true (fits_ok (by show acc.length < _; omega)), gd_true (fitsS_ok (by omega))]
    rw [show (((i + p.length : Nat) : Int)) = (i : Int) + (p.length : Int) by omega]
  · rw [found_gs e g h1, bs]
    show (whileS (m_parts_of_b3 z ("" : Str)) m_parts_of_b4 fuel (i : Int)).bind _ = _
    have w := end_gs hz g e hr 0 fuel (Nat.zero_le _) (by unfold fuel; omega)
    rw [Nat.add_zero] at w
    rw [w, bs, if_neg (by rw [decide_eq_false (show ¬ (((i + p.length : Nat) : Int)) = (i : Int) by omega), Bool.and_false]; decide), if_pos (decide_eq_true rfl), gd_true (fitsS_ok (by omega)), cut_part e, bs, gd_true (fits_ok (by show acc.length < _; omega)), gd_true (fitsS_ok (by omega))]
    rw [show (((i + p.length : Nat) : Int)) = (i : Int) + (p.length : Int) by omega]
theorem parts_ok {ps : List Str} (h : alw ps) (h4 : ps.length ≤ 4) : m_parts_of (Txt.join ("" : Str) ps) = some (some ps) := by
  have hz : (Txt.join ("" : Str) ps).length ≤ 1000 := by
    have := (join_lw (alw_part h) h4).2.2
    rw [cl_len]; omega
  have ez : cl (Txt.join ("" : Str) ps) = ps.flatMap cl := join_cl ps
  generalize Txt.join ("" : Str) ps = z at hz ez
  have lz : z.length = (ps.flatMap cl).length := by rw [cl_len, ez]
  have go : ∀ (qs dn : List Str) (n : Nat), dn ++ qs = ps → qs.length < n → whileC (m_parts_of_b1 z) (m_parts_of_b5 z) n (dn, (((dn.flatMap cl).length : Nat) : Int)) = some (.nx (ps, (z.length : Int))) := by
    intro qs
    induction qs with
    | nil =>
      intro dn n e hn
      rw [List.append_nil] at e
      subst e
      obtain ⟨n, rfl⟩ : ∃ m, n = m + 1 := ⟨n - 1, by omega⟩
      show (m_parts_of_b1 z (dn, (((dn.flatMap cl).length : Nat) : Int))).bind _ = _
      unfold m_parts_of_b1
      rw [gd_true (fitsS_ok (by omega)), bs, ← lz, decide_eq_false (Int.lt_irrefl _)]
      rfl
    | cons p qs ih =>
      intro dn n e hn
      obtain ⟨n, rfl⟩ : ∃ m, n = m + 1 := ⟨n - 1, by omega⟩
      rw [List.length_cons] at hn
      have ed : (cl z).drop (dn.flatMap cl).length = cl p ++ qs.flatMap cl := by
        rw [ez, ← e, List.flatMap_append, List.drop_left' rfl, List.flatMap_cons]
      have hk : ps[dn.length]? = some p := by rw [← e, List.getElem?_append_right (Nat.le_refl _), Nat.sub_self]; rfl
      have ok := h _ _ hk
      have pl := part_len (alw_part h p (List.mem_of_getElem? hk))
      have ld := congrArg List.length ed
      rw [List.length_drop, List.length_append, ← cl_len, ← cl_len] at ld
      have ld2 := congrArg List.length e
      rw [List.length_append, List.length_cons] at ld2
      have hp : fr p ∨ gs p ∧ 1 ≤ p.length ∧ ∀ c, (qs.flatMap cl)[0]? = some c → c ∉ cl SG := by
        rcases ok with ⟨q, _⟩ | q | q | ⟨g, g1, g2, g3⟩
        · exact .inl (.inl q)
        · exact .inl (.inr (.inl q))
        · exact .inl (.inr (.inr q))
        · refine .inr ⟨g, g1, fun c hc => ?_⟩
          cases qs with
          | nil => simp at hc
          | cons q qs =>
            have hq : ps[dn.length + 1]? = some q := by rw [← e, List.getElem?_append_right (by omega), show dn.length + 1 - dn.length = 1 by omega]; rfl
            have fq : fr q := by
              rcases h _ _ hq with ⟨y, _⟩ | y | y | ⟨_, _, _, y⟩
              · exact .inl y
              · exact .inr (.inl y)
              · exact .inr (.inr y)
              · exact absurd (y p (by omega) (by rw [show dn.length + 1 - 1 = dn.length by omega]; exact hk)) (gs_nfr g)
            have f0 := (fr_ne fq).2
            rw [List.flatMap_cons, List.getElem?_append_left (List.getElem?_eq_some_iff.mp f0).1, f0] at hc
            cases hc
            exact sg60
      show (m_parts_of_b1 z (dn, (((dn.flatMap cl).length : Nat) : Int))).bind _ = _
      unfold m_parts_of_b1
      rw [gd_true (fitsS_ok (by omega)), bs, decide_eq_true (show (((dn.flatMap cl).length : Nat) : Int) < (z.length : Int) by omega), if_pos rfl, part_step hz (by show dn.length ≤ 100; omega) ed hp, bs]
      show whileC (m_parts_of_b1 z) (m_parts_of_b5 z) n (dn ++ [p], ((((dn.flatMap cl).length + p.length : Nat)) : Int)) = _
      have := ih (dn ++ [p]) n (by rw [List.append_assoc]; exact e) (by omega)
      rw [List.flatMap_append, List.length_append, show ([p].flatMap cl).length = p.length by rw [List.flatMap_cons, List.flatMap_nil, List.append_nil, ← cl_len]] at this
      exact this
  unfold m_parts_of
  have w := go ps [] fuel rfl (by unfold fuel; omega)
  rw [show (([] : List Str), ((([] : List Str).flatMap cl).length : Int)) = (([] : List Str), (0 : Int)) from rfl] at w
  rw [w, bs]
  rfl
end
/-! ### the text of a pattern, read -/
section
theorem st_with (a : Str) (c : Nat) : Txt.startswith a ⟨#[c]⟩ = decide ((cl a)[0]? = some c) := by
  unfold Txt.startswith
  have h := StrLaws.subAt_one a c 0
  rw [Bool.eq_iff_iff, Bool.and_eq_true, decide_eq_true_eq, decide_eq_true_eq]
  exact h
theorem en_with (a : Str) (c : Nat) (h1 : 1 ≤ a.length) : Txt.endswith a ⟨#[c]⟩ = decide ((cl a)[a.length - 1]? = some c) := by
  unfold Txt.endswith
  have h := StrLaws.subAt_one a c (a.length - 1)
  have e : (⟨#[c]⟩ : Str).length = 1 := rfl
  rw [e] at h ⊢
  rw [Bool.eq_iff_iff, Bool.and_eq_true, decide_eq_true_eq, decide_eq_true_eq]
  constructor
  · exact fun q => h.mp ⟨by omega, q.2⟩
  · exact fun q => ⟨by omega, (h.mpr q).2⟩
theorem sIx_m1 (n d : Nat) : HT.sIx n d (some (-1)) = n - 1 := by
  show (if (-1 : Int) < 0 then ((-1 : Int) + (n : Int)).toNat else min (-1 : Int).toNat n) = _
  rw [if_pos (by decide)]; omega
theorem cut_inner (c d : Nat) (M : List Nat) : cut (c :: (M ++ [d])) (some 1) (some (-1)) = M := by
  unfold cut
  rw [sIx_m1, show (1 : Int) = ((1 : Nat) : Int) from rfl, HT.sIx_nat, List.length_cons, List.length_append, List.length_singleton, show min 1 (M.length + 1 + 1) = 1 by omega, show M.length + 1 + 1 - 1 - 1 = M.length by omega]
  exact List.take_left' rfl
theorem cut_last1 (u : List Nat) (c : Nat) : cut (u ++ [c]) (some (-1)) none = [c] := by
  unfold cut
  rw [sIx_m1, HT.sIx_none, List.length_append, List.length_singleton, show u.length + 1 - 1 = u.length by omega, List.drop_left' rfl, show u.length + 1 - u.length = 1 by omega]
  rfl
theorem okP_sub {l r P : Pat} (h : okP P) (hf : P.forms = l.forms ++ r.forms) (hh : P.ht = max l.ht r.ht + 1) : okP l ∧ okP r := by
  have a := h.ht
  have b := h.few
  rw [hf, List.length_append] at b
  exact ⟨⟨by omega, fun ps hp => h.fs ps (by rw [hf]; exact List.mem_append_left _ hp), by omega⟩, ⟨by omega, fun ps hp => h.fs ps (by rw [hf]; exact List.mem_append_right _ hp), by omega⟩⟩
theorem okP_part {P : Pat} (h : okP P) : ∀ ps ∈ P.forms, ∀ s ∈ ps, part s := fun ps hp => alw_part (h.fs ps hp).1
theorem pTxt_len {P : Pat} (h : okP P) (h3 : P.forms.length ≤ 3) : (pTxt P).length ≤ 200 := by
  have := (pTxt_ok h.fs h.few).2.2
  rw [cl_len]; omega
theorem join_read {l r P : Pat} {o : Nat} (hP : okP P) (h3 : P.forms.length ≤ 3) (hf : P.forms = l.forms ++ r.forms) (hh : P.ht = max l.ht r.ht + 1) (ho : o = 38 ∨ o = 124)
    (ez : cl (pTxt P) = [40] ++ (cl (pTxt l) ++ ([32] ++ ([o] ++ ([32] ++ (cl (pTxt r) ++ [41]))))))
    (hm : (if decide ((⟨#[o]⟩ : Str) = ("&" : Str)) = true then ((m_Pattern___and__ l r).bind fun t => some t) else ((m_Pattern___or__ l r).bind fun t => some t)) = some P) {n : Nat} {w : Str}
    (il : m_pattern_of n (pTxt l) w = some l) (ir : m_pattern_of n (pTxt r) w = some r) : m_pattern_of (n + 1) (pTxt P) w = some P := by
  have lz := pTxt_len hP h3
  obtain ⟨okl, okr⟩ := okP_sub hP hf hh
  generalize pTxt P = z at ez lz
  have ei : cl (cutS z (some 1) (some (-1))) = cl (pTxt l) ++ ([32] ++ ([o] ++ ([32] ++ cl (pTxt r)))) := by
    rw [cl_cut, ez]
    have := cut_inner 40 41 (cl (pTxt l) ++ ([32] ++ ([o] ++ ([32] ++ cl (pTxt r)))))
    simp only [List.append_assoc, List.cons_append, List.nil_append] at this ⊢
    exact this
  have md := middle_ok (okP_part okl) (okP_part okr) ho ei
  have li : (cutS z (some 1) (some (-1))).length ≤ 200 := by
    rw [cl_len, ei]
    have := congrArg List.length ez
    rw [← cl_len] at this
    simp only [List.length_append, List.length_cons, List.length_nil] at this ⊢
    omega
  obtain ⟨I, hI⟩ : ∃ I, cutS z (some 1) (some (-1)) = I := ⟨_, rfl⟩
  rw [hI] at ei md li
  have s40 : Txt.startswith z ("(" : Str) = true := by
    rw [lit_signs.1, st_with, ez]; rfl
  have s41 : Txt.endswith z (")" : Str) = true := by
    have l1 := congrArg List.length ez
    rw [← cl_len] at l1
    simp only [List.length_append, List.length_cons, List.length_nil] at l1
    rw [lit_signs.2.1, en_with z 41 (by omega), ez, decide_eq_true_eq]
    have e2 : [40] ++ (cl (pTxt l) ++ ([32] ++ ([o] ++ ([32] ++ (cl (pTxt r) ++ [41]))))) = ([40] ++ (cl (pTxt l) ++ ([32] ++ ([o] ++ ([32] ++ cl (pTxt r)))))) ++ [41] := by simp
    rw [e2, List.getElem?_append_right (by simp only [List.length_append, List.length_cons, List.length_nil]; omega)]
    have : z.length - 1 - ([40] ++ (cl (pTxt l) ++ ([32] ++ ([o] ++ ([32] ++ cl (pTxt r)))))).length = 0 := by
      simp only [List.length_append, List.length_cons, List.length_nil]; omega
    rw [this]; rfl
  have c1 : cutS (cutS I none (some (((cl (pTxt l)).length : Int) + 1))) (some (-1)) none = (" " : Str) := by
    refine cl_inj ?_
    rw [cl_cut, cl_cut, cut_to _ (by omega), ei, show (((cl (pTxt l)).length : Int) + 1).toNat = (cl (pTxt l)).length + 1 by omega]
    have : (cl (pTxt l) ++ ([32] ++ ([o] ++ ([32] ++ cl (pTxt r))))).take ((cl (pTxt l)).length + 1) = cl (pTxt l) ++ [32] := by
      rw [List.take_append, List.take_of_length_le (by omega), show (cl (pTxt l)).length + 1 - (cl (pTxt l)).length = 1 by omega]; rfl
    rw [this, cut_last1, lit_signs.2.2.2.2.2]; rfl
  have dr : ∀ k, (cl (pTxt l) ++ ([32] ++ ([o] ++ ([32] ++ cl (pTxt r))))).drop ((cl (pTxt l)).length + k) = ([32] ++ ([o] ++ ([32] ++ cl (pTxt r)))).drop k := fun k => by
    rw [List.drop_append, List.drop_of_length_le (by omega), List.nil_append, show (cl (pTxt l)).length + k - (cl (pTxt l)).length = k by omega]
  have c2 : cutS I (some ((((cl (pTxt l)).length : Int) + 1) + 1)) (some ((((cl (pTxt l)).length : Int) + 1) + 2)) = (" " : Str) := by
    refine cl_inj ?_
    rw [cl_cut, cut_mid (cl I) (by omega) (by omega), ei, show ((((cl (pTxt l)).length : Int) + 1) + 1).toNat = (cl (pTxt l)).length + 2 by omega, show ((((cl (pTxt l)).length : Int) + 1) + 2).toNat - ((cl (pTxt l)).length + 2) = 1 by omega, dr, lit_signs.2.2.2.2.2]
    rfl
  have c3 : cutS I none (some ((((cl (pTxt l)).length : Int) + 1) - 1)) = pTxt l := by
    refine cl_inj ?_
    rw [cl_cut, cut_to _ (by omega), ei, show ((((cl (pTxt l)).length : Int) + 1) - 1).toNat = (cl (pTxt l)).length by omega]
    exact List.take_left' rfl
  have c4 : cutS I (some ((((cl (pTxt l)).length : Int) + 1) + 2)) none = pTxt r := by
    refine cl_inj ?_
    rw [cl_cut, cut_from _ (by omega), ei, show ((((cl (pTxt l)).length : Int) + 1) + 2).toNat = (cl (pTxt l)).length + 3 by omega, dr]
    rfl
  have c5 : ixS I (((cl (pTxt l)).length : Int) + 1) = some ⟨#[o]⟩ := by
    have e := ix_at (z := I) (k := (cl (pTxt l)).length + 1) (c := o) (by omega) (by
      rw [ei, List.getElem?_append_right (by omega), show (cl (pTxt l)).length + 1 - (cl (pTxt l)).length = 1 by omega]; rfl)
    rw [← e]; rfl
  have l5 : (cutS I none (some (((cl (pTxt l)).length : Int) + 1))).length ≤ 200 := by
    rw [cl_len, cl_cut, cut_to _ (by omega), List.length_take]
    rw [cl_len] at li
    omega
  show (if (!(Txt.startswith z ("(" : Str))) = true then _ else gd (fitsS z) _) = _
  rw [s40, if_neg (by decide), gd_true (fitsS_ok (by omega))]
  simp only [hI]
  rw [md, bs, s41]
  show (if (!true || false) = true then none else _) = _
  rw [if_neg (by decide), bs, gd_true (fitsS_ok (by omega)), gd_true (fitsS_ok (by omega)), c1, c2, c3, c4, c5, decide_eq_true rfl, if_neg (by decide), gd_true (fitsS_ok (by omega)), bs, if_neg (by decide), gd_true (fitsS_ok (by omega)), il, bs, gd_true (fitsS_ok (by omega)), ir, bs, bs, hm, bs]
theorem read_at : ∀ (P : Pat), okP P → P.forms.length ≤ 3 → ∀ (n : Nat) (w : Str), P.ht + 1 ≤ n → m_pattern_of n (pTxt P) w = some P
  | .form ps, h, h3, n, w, hn => by
    obtain ⟨n, rfl⟩ : ∃ m, n = m + 1 := ⟨n - 1, by omega⟩
    obtain ⟨a, b, c⟩ := h.fs ps List.mem_cons_self
    have s40 : Txt.startswith (Txt.join ("" : Str) ps) ("(" : Str) = false := by
      rw [lit_signs.1, st_with, decide_eq_false_iff_not]
      exact fun q => (join_flat (alw_part a) 40 (List.mem_of_getElem? q)).1 rfl
    show (if (!(Txt.startswith (Txt.join ("" : Str) ps) ("(" : Str))) = true then ((m_parts_of (Txt.join ("" : Str) ps)).bind fun t2 => if (t2.isNone) = true then none else (t2.bind fun t11 => gd (Nat.ble t11.length 900) ((m_Form___init__ t11).bind fun t18 => some (Pat.form t18)))) else _) = _
    rw [s40, if_pos (by decide), parts_ok a c, bs]
    show (Option.bind (some ps) fun t11 => gd (Nat.ble t11.length 900) ((m_Form___init__ t11).bind fun t18 => some (Pat.form t18))) = _
    rw [bs, gd_true (Nat.ble_eq_true_of_le (by omega)), init_eq a c b, bs]
  | .both l r, h, h3, n, w, hn => by
    obtain ⟨n, rfl⟩ : ∃ m, n = m + 1 := ⟨n - 1, by omega⟩
    have hn : max l.ht r.ht + 1 + 1 ≤ n + 1 := hn
    obtain ⟨okl, okr⟩ := okP_sub h rfl rfl
    have h3' : (l.forms ++ r.forms).length ≤ 3 := h3
    rw [List.length_append] at h3'
    refine join_read (l := l) (r := r) h h3 rfl rfl (.inl rfl) (joinP_cl 38 op_cl.1) ?_ (read_at l okl (by omega) n w (by omega)) (read_at r okr (by omega) n w (by omega))
    rw [if_pos (by rw [lit_signs.2.2.2.1]; exact decide_eq_true rfl)]
    unfold m_Pattern___and__ m_Both___init__
    rw [pat_forms_eq okl, bs, pat_forms_eq okr, bs, ite_no (by omega), bs, bs] <;> rfl
  | .either l r, h, h3, n, w, hn => by
    obtain ⟨n, rfl⟩ : ∃ m, n = m + 1 := ⟨n - 1, by omega⟩
    have hn : max l.ht r.ht + 1 + 1 ≤ n + 1 := hn
    obtain ⟨okl, okr⟩ := okP_sub h rfl rfl
    have h3' : (l.forms ++ r.forms).length ≤ 3 := h3
    rw [List.length_append] at h3'
    refine join_read (l := l) (r := r) h h3 rfl rfl (.inr rfl) (joinP_cl 124 op_cl.2) ?_ (read_at l okl (by omega) n w (by omega)) (read_at r okr (by omega) n w (by omega))
    rw [if_neg (by rw [lit_signs.2.2.2.1]; exact fun q => absurd (one_str.mp (of_decide_eq_true q)) (by decide))]
    unfold m_Pattern___or__ m_Either___init__
    rw [pat_forms_eq okl, bs, pat_forms_eq okr, bs, ite_no (by omega), bs, bs] <;> rfl
theorem read_ok {P : Pat} (h : okP P) (h3 : P.forms.length ≤ 3) (hh : P.ht ≤ 2) : m_read_pattern (pTxt P) = some P := by
  have c1 := count_pat P (okP_part h)
  have c2 := count_le (pTxt P) 40
  unfold m_read_pattern
  rw [lit_signs.1, if_neg (fun q => by have := of_decide_eq_true q; omega), read_at P h h3 3 _ (by omega), bs]
end
/-! ### what is read is the text: any text -/
section
/-- m_parts_of's inner walk over the free parts -/
theorem free_run (z : Str) (s : List Str × Int) {m : Nat} (hs : s.2 = (m : Int)) : Ok (loopS (m_parts_of_b2 z s) (["<digits>", "<word>", "<any>"] : List Str) ("" : Str)) fun f => f = ("" : Str) ∨ f ≠ ("" : Str) ∧ m + f.length ≤ z.length ∧ ((cl z).drop m).take f.length = cl f := by
  refine Ok.loop (I := fun _ f => f = ("" : Str) ∨ f ≠ ("" : Str) ∧ m + f.length ≤ z.length ∧ ((cl z).drop m).take f.length = cl f) (.inl rfl) fun pre x post f e hf => ?_
  have hx : x ∈ (["<digits>", "<word>", "<any>"] : List Str) := by rw [e]; simp
  have hne : x ≠ ("" : Str) := by
    have : ∀ y ∈ (["<digits>", "<word>", "<any>"] : List Str), y ≠ ("" : Str) := by decide +kernel
    exact this x hx
  unfold m_parts_of_b2
  rw [hs, sw3]
  by_cases h : m + x.length ≤ z.length ∧ ((cl z).drop m).take x.length = cl x
  · rw [if_pos (decide_eq_true h)]; exact Ok.sm (.inr ⟨hne, h.1, h.2⟩)
  · rw [if_neg (fun q => h (of_decide_eq_true q))]; exact Ok.sm hf
theorem sign_run (z f : Str) (hz : z.length ≤ 900) {m : Nat} (hm : m ≤ z.length) : Ok (whileS (m_parts_of_b3 z f) m_parts_of_b4 fuel (m : Int)) fun e => ∃ k : Nat, e = (k : Int) ∧ m ≤ k ∧ k ≤ z.length := by
  refine Ok.wh (fun e => ∃ k : Nat, e = (k : Int) ∧ m ≤ k ∧ k ≤ z.length) (fun e => z.length - e.toNat) (fun e ⟨k, ek, h1, h2⟩ => ?_) fuel _ ⟨m, rfl, Nat.le_refl _, hm⟩ (by unfold fuel; show z.length - _ < _; omega)
  subst ek
  unfold m_parts_of_b3
  have c : Ok ((if (decide (f = ("" : Str))) = true then (gd (fitsS z) <| (if (decide ((k : Int) < ((z).length : Int))) = true then ((ixS z (k : Int)).bind fun t128 => some ((inS t128 (" #-.0123456789:>ABCDEFGHIJKLMNOPQRSTUVWXYZabcdefghijklmnopqrstuvwxyz" : Str)))) else some (false)).bind fun t122 => some (t122)) else some (false))) fun b => b = true → k < z.length := by
    refine Ok.ite (fun _ => Ok.gd (fitsS_ok (by omega)) ?_) fun _ => Ok.sm fun z => by cases z
    by_cases h : k < z.length
    · rw [if_pos (decide_eq_true (show (k : Int) < (z.length : Int) by omega))]
      have hk : k < (cl z).length := by rw [← cl_len]; exact h
      rw [ix_at (by omega) (List.getElem?_eq_getElem hk), bs, bs]
      exact Ok.sm fun _ => h
    · rw [if_neg (fun q => h (by have := of_decide_eq_true q; omega)), bs]
      exact Ok.sm fun z => by cases z
  refine Ok.bd c fun b hb => Ok.sm ?_
  cases b with
  | false => exact .inl ⟨rfl, k, rfl, h1, h2⟩
  | true =>
    refine .inr ⟨rfl, ?_⟩
    have := hb rfl
    exact Ok.sm ⟨⟨k + 1, by show (k : Int) + 1 = ((k + 1 : Nat) : Int); omega, by omega, by omega⟩, by show z.length - ((k : Int) + 1).toNat < z.length - (k : Int).toNat; omega⟩
theorem parts_snd {z : Str} (hz : z.length ≤ 900) : Ok (m_parts_of z) fun r => ∀ ps, r = some ps → ps.flatMap cl = cl z ∧ ps.length ≤ z.length := by
  unfold m_parts_of
  refine Ok.bd (Ok.whC (Q := fun c => c = .rt none ∨ ∃ s : List Str × Int, c = .nx s ∧ s.1.flatMap cl = cl z ∧ s.1.length ≤ z.length) (fun s => ∃ m : Nat, s.2 = (m : Int) ∧ m ≤ z.length ∧ s.1.flatMap cl = (cl z).take m ∧ s.1.length ≤ m) (fun s => z.length - s.2.toNat) (fun s ⟨m, em, h1, h2, h3⟩ => ?_) fuel _ ⟨0, rfl, Nat.zero_le _, rfl, Nat.le_refl _⟩ (by unfold fuel; show z.length - _ < _; omega)) fun c hc => ?_
  · obtain ⟨L, e2⟩ := s
    have em : e2 = (m : Int) := em
    subst em
    have h2 : L.flatMap cl = (cl z).take m := h2
    have h3 : L.length ≤ m := h3
    unfold m_parts_of_b1
    refine Ok.gd (fitsS_ok (by omega)) (Ok.sm ?_)
    by_cases h : m < z.length
    · refine .inr ⟨decide_eq_true (by show (m : Int) < _; omega), ?_⟩
      unfold m_parts_of_b5
      show Ok ((loopS (m_parts_of_b2 z (L, (m : Int))) _ _).bind _) _
      refine Ok.bd (free_run z (L, (m : Int)) rfl) fun f hf => ?_
      show Ok ((whileS (m_parts_of_b3 z f) m_parts_of_b4 fuel (m : Int)).bind _) _
      refine Ok.bd (sign_run z f hz h1) fun e ⟨k, ek, k1, k2⟩ => ?_
      subst ek
      have more : ∀ t : Str, 1 ≤ t.length → m + t.length ≤ z.length → cl t = ((cl z).drop m).take t.length → Ok (gd (fits L) <| gd (fitsS t) <| some (Ctl.nx (L ++ [t], (m : Int) + (t.length : Int)) : Ctl (List Str × Int) (Option (List Str)))) fun c' => (∃ s', c' = .nx s' ∧ (∃ m : Nat, s'.2 = (m : Int) ∧ m ≤ z.length ∧ s'.1.flatMap cl = (cl z).take m ∧ s'.1.length ≤ m) ∧ z.length - s'.2.toNat < z.length - (m : Int).toNat) ∨ (∃ s' : List Str × Int, c' = .bk s' ∧ ((Ctl.nx s' : Ctl (List Str × Int) (Option (List Str))) = .rt none ∨ ∃ s : List Str × Int, (Ctl.nx s' : Ctl (List Str × Int) (Option (List Str))) = .nx s ∧ s.1.flatMap cl = cl z ∧ s.1.length ≤ z.length)) ∨ ∃ r, c' = .rt r ∧ ((Ctl.rt r : Ctl (List Str × Int) (Option (List Str))) = .rt none ∨ ∃ s : List Str × Int, (Ctl.rt r : Ctl (List Str × Int) (Option (List Str))) = .nx s ∧ s.1.flatMap cl = cl z ∧ s.1.length ≤ z.length) := fun t t1 t2 t3 => by
        refine Ok.gd (fits_ok (by omega)) (Ok.gd (fitsS_ok (by omega)) (Ok.sm (.inl ⟨_, rfl, ⟨m + t.length, by show (m : Int) + (t.length : Int) = ((m + t.length : Nat) : Int); omega, t2, ?_, by show (L ++ [t]).length ≤ _; rw [List.length_append, List.length_singleton]; omega⟩, by show z.length - ((m : Int) + (t.length : Int)).toNat < z.length - (m : Int).toNat; omega⟩)))
        show (L ++ [t]).flatMap cl = _
        rw [List.flatMap_append, h2, List.flatMap_cons, List.flatMap_nil, List.append_nil, t3, ← List.take_add]
      rcases hf with rfl | ⟨f0, f1, f2⟩
      · by_cases z0 : (k : Int) = (m : Int)
        · rw [if_pos (by rw [decide_eq_true rfl, decide_eq_true z0]; rfl)]
          exact Ok.sm (.inr (.inr ⟨_, rfl, .inl rfl⟩))
        · rw [if_neg (by rw [decide_eq_false z0, Bool.and_false]; decide), if_pos (decide_eq_true rfl), gd_true (fitsS_ok (by omega)), bs]
          have c1 : cl (cutS z (some (m : Int)) (some (k : Int))) = ((cl z).drop m).take (k - m) := by
            rw [cl_cut, cut_mid _ (by omega) (by omega)]; rfl
          have l1 : (cutS z (some (m : Int)) (some (k : Int))).length = k - m := by
            rw [cl_len, c1, List.length_take, List.length_drop, ← cl_len]; omega
          exact more (cutS z (some (m : Int)) (some (k : Int))) (by omega) (by omega) (by rw [l1]; exact c1)
      · rw [if_neg (by rw [decide_eq_false f0, Bool.false_and]; decide), if_neg (by rw [decide_eq_false f0]; decide), bs]
        refine more f ?_ f1 f2.symm
        have : f.length ≠ 0 := fun q => f0 (cl_inj (by
          have e : (cl f).length = 0 := by rw [← cl_len]; exact q
          rw [List.length_eq_zero_iff.mp e]; decide +kernel))
        omega
    · refine .inl ⟨decide_eq_false (by show ¬ (m : Int) < _; omega), .inr ⟨_, rfl, ?_, by show L.length ≤ _; omega⟩⟩
      show L.flatMap cl = cl z
      rw [h2, List.take_of_length_le (by rw [← cl_len]; omega)]
  · rcases hc with rfl | ⟨s, rfl, h1, h2⟩
    · exact Ok.sm fun ps q => by cases q
    · refine Ok.sm fun ps q => ?_
      cases q
      exact ⟨h1, h2⟩
theorem init_snd {ps : List Str} (hl : ps.length ≤ 900) (hs : ∀ p ∈ ps, p.length ≤ 900) : Ok (m_Form___init___vx ps) fun r => (∃ o, r = .error o) ∨ r = .ok ps := by
  unfold m_Form___init___vx
  by_cases h0 : ((ps.length : Int)) = 0
  · rw [if_pos (decide_eq_true h0)]; exact Ok.sm (.inl ⟨_, rfl⟩)
  rw [if_neg (fun q => h0 (of_decide_eq_true q))]
  refine Ok.gd (rgOk_ok (by omega) (by omega) (by omega) (by omega)) (Ok.bd (Ok.loopR (fun _ _ => True) (fun r => ∃ o, r = .error o) trivial fun pre k post u e _ => ?_) fun c hc => ?_)
  · have hk := rng_at e
    obtain ⟨k1, k2, k3⟩ := hk
    have at_ : ∀ j : Int, 0 ≤ j → j < (ps.length : Int) → ∃ p, atI ps j = some p ∧ p ∈ ps := fun j j1 j2 => by
      have hj : j.toNat < ps.length := by omega
      exact ⟨ps[j.toNat], by rw [atI_nn j1 j2]; exact List.getElem?_eq_getElem hj, List.getElem_mem hj⟩
    have al : Ok (m_is_allowed ps k) fun _ => True := by
      unfold m_is_allowed
      obtain ⟨p, ep, hp⟩ := at_ k (by omega) (by omega)
      refine Ok.bde ep (Ok.ite (fun _ => Ok.sm trivial) fun _ => Ok.ite (fun _ => Ok.sm trivial) fun _ => Ok.ite (fun _ => Ok.sm trivial) fun _ => ?_)
      refine Ok.bd (P := fun _ => True) (Ok.ite (fun q => ?_) fun _ => Ok.sm trivial) fun t _ => Ok.ite (fun _ => Ok.sm trivial) fun _ => ?_
      · have := of_decide_eq_true q
        obtain ⟨p', ep', _⟩ := at_ (k - 1) (by omega) (by omega)
        exact Ok.bde ep' (Ok.sm trivial)
      · refine Ok.bde (is_line_str p) (Ok.bd (P := fun _ => True) (Ok.ite (fun _ => Ok.gd (fitsS_ok (by have := hs p hp; omega)) (Ok.sm trivial)) fun _ => Ok.sm trivial) fun _ _ => Ok.sm trivial)
    unfold m_Form___init___vx_b1
    refine Ok.bd al fun b _ => Ok.ite (fun _ => Ok.sm (.inr ⟨_, rfl, _, rfl⟩)) fun _ => Ok.sm (.inl ⟨_, rfl, trivial⟩)
  · rcases hc with ⟨s, rfl, _⟩ | ⟨r, rfl, o, rfl⟩
    · exact Ok.sm (.inr rfl)
    · exact Ok.sm (.inl ⟨o, rfl⟩)
theorem middle_snd {z : Str} (hz : z.length ≤ 900) : Ok (m_middle_of z) fun r => ∀ k, r = some k → ∃ j c : Nat, k = (j : Int) ∧ (cl z)[j]? = some c ∧ (c = 38 ∨ c = 124) := by
  unfold m_middle_of
  rw [enum_enF]
  have run : ∀ (w : List Nat) (d : Nat) (s : List Int × Int), (cl z).drop d = w → s.1.length ≤ d → (∀ k ∈ s.1, ∃ j c : Nat, k = (j : Int) ∧ (cl z)[j]? = some c ∧ (c = 38 ∨ c = 124)) →
      Ok (loopS m_middle_of_b1 (enF d w) s) fun s => ∀ k ∈ s.1, ∃ j c : Nat, k = (j : Int) ∧ (cl z)[j]? = some c ∧ (c = 38 ∨ c = 124) := by
    intro w
    induction w with
    | nil => exact fun d s _ _ h => Ok.sm h
    | cons c w ih =>
      intro d s e hl h
      have hd : d < (cl z).length := by
        have := congrArg List.length e
        rw [List.length_drop, List.length_cons] at this
        omega
      have hc : (cl z)[d]? = some c := by
        have q := congrArg (fun l => l[0]?) e
        simpa using q
      have hw : (cl z).drop (d + 1) = w := by rw [← List.tail_drop, e]; rfl
      have ld : d < 900 := by rw [← cl_len] at hd; omega
      show Ok ((m_middle_of_b1 ((d : Int), ⟨#[c]⟩) s).bind fun s' => loopS m_middle_of_b1 (enF (d + 1) w) s') _
      rw [mid_b1 (by omega), bs]
      split
      · exact ih (d + 1) _ hw (by show s.1.length ≤ _; omega) h
      · split
        · exact ih (d + 1) _ hw (by show s.1.length ≤ _; omega) h
        · split
          · rename_i q
            refine ih (d + 1) _ hw (by show (s.1 ++ [_]).length ≤ _; rw [List.length_append, List.length_singleton]; omega) fun k hk => ?_
            rcases List.mem_append.mp hk with y | y
            · exact h k y
            · rw [List.mem_singleton.mp y]; exact ⟨d, c, rfl, hc, q.1⟩
          · exact ih (d + 1) _ hw (by show s.1.length ≤ _; omega) h
  refine Ok.bd (run (cl z) 0 _ rfl (Nat.le_refl _) fun k hk => absurd hk List.not_mem_nil) fun s hs => ?_
  refine Ok.bd (P := fun r => ∀ k, r = some k → ∃ j c : Nat, k = (j : Int) ∧ (cl z)[j]? = some c ∧ (c = 38 ∨ c = 124)) (Ok.ite (fun q => ?_) fun _ => Ok.sm fun k q => by cases q) fun r hr => Ok.sm hr
  have q1 := of_decide_eq_true q
  obtain ⟨x, hx⟩ := List.length_eq_one_iff.mp (show s.1.length = 1 by omega)
  refine Ok.bde (a := x) (by rw [hx]; rfl) (Ok.sm fun k e => ?_)
  cases e
  exact hs x (by rw [hx]; exact List.mem_singleton.mpr rfl)
theorem cut_lastD {w : List Nat} : cut w (some (-1)) none = w.drop (w.length - 1) := by
  unfold cut
  rw [sIx_m1, HT.sIx_none]
  exact List.take_of_length_le (by rw [List.length_drop]; exact Nat.le_refl _)
/-- a text that a pattern of P's text may be read from -/
def Rd7 (n : Nat) (z : Str) (P : Pat) : Prop := pTxt P = z ∧ P.ht + 1 ≤ n ∧ P.forms.length ≤ 3
theorem joined7 {o : Nat} {l r : Pat} {z a b : Str} {n : Nat} (mk : Pat → Pat → Pat) (op : Str) (hop : cl op = [32, o, 32]) (ht : (mk l r).ht = max l.ht r.ht + 1) (hf : (mk l r).forms = l.forms ++ r.forms) (hp : pTxt (mk l r) = joinP op (pTxt l) (pTxt r)) (hl : Rd7 n a l) (hr : Rd7 n b r)
    (ez : cl z = [40] ++ (cl a ++ ([32] ++ ([o] ++ ([32] ++ (cl b ++ [41])))))) (h3 : ¬ (3 : Int) < (l.forms.length : Int) + (r.forms.length : Int)) : Rd7 (n + 1) z (mk l r) := by
  refine ⟨?_, ?_, ?_⟩
  · rw [hp]
    refine cl_inj ?_
    rw [joinP_cl o hop, hl.1, hr.1, ez]
  · have := hl.2.1
    have := hr.2.1
    rw [ht]; omega
  · rw [hf, List.length_append]; omega
theorem pat_snd (n : Nat) : ∀ (z w : Str), z.length ≤ 900 → n ≤ 3 → (cl z).count 40 + 1 ≤ n → Ok (m_pattern_of_vx n z w) fun r => (∃ P, r = .ok P ∧ Rd7 n z P) ∨ r = .error (.inl w) ∨ ∃ o, r = .error (.inr o) := by
  induction n with
  | zero => exact fun z w _ _ h => absurd h (by omega)
  | succ n ih =>
    intro z w hz hn hc
    unfold m_pattern_of_vx
    refine Ok.ite (fun _ => ?_) fun s0 => ?_
    · refine Ok.bd (parts_snd hz) fun t ht => ?_
      cases t with
      | none => exact Ok.sm (.inr (.inl rfl))
      | some ps =>
        obtain ⟨e1, e2⟩ := ht ps rfl
        refine Ok.ite (fun q => by cases q) fun _ => ?_
        rw [bs]
        have ls : ∀ p ∈ ps, p.length ≤ 900 := fun p hp => by
          have h1 : (cl p).length ≤ (ps.flatMap cl).length := by
            obtain ⟨u, v, e⟩ := List.append_of_mem hp
            rw [e, List.flatMap_append, List.flatMap_cons, List.length_append, List.length_append]; omega
          rw [e1, ← cl_len, ← cl_len] at h1
          omega
        refine Ok.gd (Nat.ble_eq_true_of_le (by omega)) (Ok.bd (init_snd (by omega) ls) fun r hr => ?_)
        rcases hr with ⟨o, rfl⟩ | rfl
        · exact Ok.sm (.inr (.inr ⟨o, rfl⟩))
        · refine Ok.sm (.inl ⟨_, rfl, ?_, ?_, ?_⟩)
          · show Txt.join ("" : Str) ps = z
            exact cl_inj (by rw [join_cl, e1])
          · show 0 + 1 ≤ n + 1; omega
          · show 1 ≤ 3; decide
    have s40 : (cl z)[0]? = some 40 := by
      have q : Txt.startswith z ("(" : Str) = true := by simpa using s0
      rw [lit_signs.1, st_with] at q
      exact of_decide_eq_true q
    have z1 : 1 ≤ z.length := by
      have := (List.getElem?_eq_some_iff.mp s40).1
      rw [← cl_len] at this; omega
    obtain ⟨I, hI⟩ : ∃ I, cutS z (some 1) (some (-1)) = I := ⟨_, rfl⟩
    have lI : I.length ≤ z.length := by
      rw [← hI, cl_len, cl_cut, cl_len]
      unfold cut
      rw [List.length_take, List.length_drop]; omega
    refine Ok.gd (fitsS_ok (by omega)) ?_
    simp only [hI]
    refine Ok.bd (middle_snd (by omega)) fun t ht => ?_
    refine Ok.ite (fun _ => Ok.sm (.inr (.inl rfl))) fun q => ?_
    rw [Bool.or_eq_false_iff] at q
    obtain ⟨q1, q2⟩ := q
    cases t with
    | none => cases q2
    | some k =>
    obtain ⟨j, o, rfl, hj, ho⟩ := ht k rfl
    have s41 : (cl z)[z.length - 1]? = some 41 := by
      have q : Txt.endswith z (")" : Str) = true := by simpa using q1
      rw [lit_signs.2.1, en_with z 41 z1] at q
      exact of_decide_eq_true q
    have z2 : 2 ≤ z.length := by
      rcases Nat.lt_or_ge 1 z.length with y | y
      · exact y
      · rw [show z.length - 1 = 0 by omega, s40] at s41; cases s41
    -- the text, split
    have ez : cl z = [40] ++ (cl I ++ [41]) := by
      have l := cl_len z
      have e0 : cl z = 40 :: (cl z).drop 1 := by
        rw [List.getElem?_eq_getElem (by omega)] at s40
        have q := List.drop_eq_getElem_cons (l := cl z) (i := 0) (by omega)
        rw [List.drop_zero, Option.some.inj s40] at q
        exact q
      have e1 : (cl z).drop 1 = ((cl z).drop 1).dropLast ++ [41] := by
        have hne : (cl z).drop 1 ≠ [] := fun y => by
          have := congrArg List.length y
          rw [List.length_drop] at this
          simp at this; omega
        have := List.dropLast_concat_getLast hne
        rw [← this]
        congr 1
        · simp
        · rw [List.getLast_drop, List.getLast_eq_getElem]
          rw [List.getElem?_eq_getElem (by omega)] at s41
          have := Option.some.inj s41
          simp only [← l]
          rw [this]
      have e2 : cl I = ((cl z).drop 1).dropLast := by
        rw [← hI, cl_cut, e0]
        conv => lhs; rw [e1]
        exact cut_inner 40 41 _
      rw [e2, ← e1]; exact e0
    rw [bs]
    have li : I.length ≤ 900 := by omega
    have ljt : (cutS I none (some (j : Int))).length ≤ 900 := by
      rw [cl_len, cl_cut, cut_to _ (by omega), List.length_take]
      rw [cl_len] at li; omega
    refine Ok.gd (fitsS_ok (by omega)) (Ok.gd (fitsS_ok (by omega)) ?_)
    by_cases g1 : cutS (cutS I none (some (j : Int))) (some (-1)) none = (" " : Str)
    case neg =>
      rw [if_pos (by rw [decide_eq_false g1]; rfl), bs, if_pos rfl]
      exact Ok.sm (.inr (.inl rfl))
    rw [if_neg (by rw [decide_eq_true g1]; decide), gd_true (fitsS_ok (by omega)), bs]
    by_cases g2 : cutS I (some ((j : Int) + 1)) (some ((j : Int) + 2)) = (" " : Str)
    case neg =>
      rw [if_pos (by rw [decide_eq_false g2]; rfl)]
      exact Ok.sm (.inr (.inl rfl))
    rw [if_neg (by rw [decide_eq_true g2]; decide)]
    have j0 : 1 ≤ j ∧ (cl I)[j - 1]? = some 32 := by
      have e := congrArg cl g1
      rw [cl_cut, cl_cut, cut_to _ (by omega), cut_lastD, lit_signs.2.2.2.2.2] at e
      have hjl : j < (cl I).length := (List.getElem?_eq_some_iff.mp hj).1
      rw [Int.toNat_natCast, List.length_take, Nat.min_eq_left (by omega)] at e
      rcases Nat.eq_zero_or_pos j with y | y
      · subst y
        exfalso
        have := congrArg List.length e
        simp at this
        cases this
      · refine ⟨y, ?_⟩
        have := congrArg (fun l => l[0]?) e
        simp only [List.getElem?_drop, Nat.add_zero] at this
        rw [List.getElem?_take_of_lt (by omega)] at this
        exact this
    have j2 : (cl I)[j + 1]? = some 32 := by
      have e := congrArg cl g2
      rw [cl_cut, cut_mid _ (by omega) (by omega), lit_signs.2.2.2.2.2, show ((j : Int) + 1).toNat = j + 1 by omega, show ((j : Int) + 2).toNat - (j + 1) = 1 by omega] at e
      have := congrArg (fun l => l[0]?) e
      simp only [List.getElem?_take_of_lt (show 0 < 1 by decide), List.getElem?_drop, Nat.add_zero] at this
      exact this
    obtain ⟨a, ha⟩ : ∃ a, cutS I none (some ((j : Int) - 1)) = a := ⟨_, rfl⟩
    obtain ⟨b, hb⟩ : ∃ b, cutS I (some ((j : Int) + 2)) none = b := ⟨_, rfl⟩
    have ca : cl a = (cl I).take (j - 1) := by rw [← ha, cl_cut, cut_to _ (by omega)]; congr 1; omega
    have cb : cl b = (cl I).drop (j + 2) := by rw [← hb, cl_cut, cut_from _ (by omega)]; rfl
    have eI : cl I = cl a ++ ([32] ++ ([o] ++ ([32] ++ cl b))) := by
      have l2 : j + 1 < (cl I).length := (List.getElem?_eq_some_iff.mp j2).1
      have e1 := List.getElem?_eq_getElem (l := cl I) (i := j - 1) (by omega)
      have e2 := List.getElem?_eq_getElem (l := cl I) (i := j) (by omega)
      have e3 := List.getElem?_eq_getElem (l := cl I) (i := j + 1) (by omega)
      rw [j0.2] at e1; rw [hj] at e2; rw [j2] at e3
      rw [ca, cb]
      conv => lhs; rw [← List.take_append_drop (j - 1) (cl I)]
      congr 1
      rw [List.drop_eq_getElem_cons (show j - 1 < (cl I).length by omega), ← Option.some.inj e1, show j - 1 + 1 = j by omega, List.drop_eq_getElem_cons (show j < (cl I).length by omega), ← Option.some.inj e2, List.drop_eq_getElem_cons l2, ← Option.some.inj e3]
      rfl
    have ez2 : cl z = [40] ++ (cl a ++ ([32] ++ ([o] ++ ([32] ++ (cl b ++ [41]))))) := by
      rw [ez, eI]
      simp only [List.append_assoc]
    have cc : (cl a).count 40 + 1 + 1 ≤ n + 1 ∧ (cl b).count 40 + 1 + 1 ≤ n + 1 := by
      have e := congrArg (List.count 40) ez2
      simp only [List.count_append] at e
      have : ([40] : List Nat).count 40 = 1 := by decide
      rw [this] at e
      omega
    have la : a.length ≤ 900 ∧ b.length ≤ 900 := by
      constructor
      · rw [cl_len, ca, List.length_take]; rw [cl_len] at li; omega
      · rw [cl_len, cb, List.length_drop]; rw [cl_len] at li; omega
    refine Ok.gd (fitsS_ok (by omega)) ?_
    rw [ha, hb]
    refine Ok.bd (ih a w la.1 (by omega) (by omega)) fun r1 h1 => ?_
    rcases h1 with ⟨P, rfl, hP⟩ | rfl | ⟨o1, rfl⟩
    rotate_left
    · exact Ok.sm (.inr (.inl rfl))
    · exact Ok.sm (.inr (.inr ⟨o1, rfl⟩))
    show Ok (gd (fitsS I) _) _
    refine Ok.gd (fitsS_ok (by omega)) (Ok.bd (ih b w la.2 (by omega) (by omega)) fun r2 h2 => ?_)
    rcases h2 with ⟨R, rfl, hR⟩ | rfl | ⟨o1, rfl⟩
    rotate_left
    · exact Ok.sm (.inr (.inl rfl))
    · exact Ok.sm (.inr (.inr ⟨o1, rfl⟩))
    show Ok ((ixS I (j : Int)).bind _) _
    rw [ix_at (by omega) hj, bs]
    have pP : m_pat_forms P = some P.forms := patN_of (by have := hP.2.1; omega) (by have := hP.2.2; omega)
    have pR : m_pat_forms R = some R.forms := patN_of (by have := hR.2.1; omega) (by have := hR.2.2; omega)
    refine Ok.ite (fun q => ?_) fun q => ?_
    · have eo : o = 38 := by rw [lit_signs.2.2.2.1] at q; exact one_str.mp (of_decide_eq_true q)
      subst eo
      unfold m_Pattern___and___vx m_Both___init___vx
      rw [pP, bs, pR, bs]
      by_cases h3 : (3 : Int) < (P.forms.length : Int) + (R.forms.length : Int)
      · rw [if_pos (decide_eq_true h3)]
        exact Ok.sm (.inr (.inr ⟨_, rfl⟩))
      · rw [if_neg (fun q => h3 (of_decide_eq_true q))]
        exact Ok.sm (.inl ⟨_, rfl, joined7 .both _ op_cl.1 rfl rfl rfl hP hR ez2 h3⟩)
    · have eo : o = 124 := by
        rcases ho with e | e
        · rw [e, lit_signs.2.2.2.1, decide_eq_true rfl] at q; cases q
        · exact e
      subst eo
      unfold m_Pattern___or___vx m_Either___init___vx
      rw [pP, bs, pR, bs]
      by_cases h3 : (3 : Int) < (P.forms.length : Int) + (R.forms.length : Int)
      · rw [if_pos (decide_eq_true h3)]
        exact Ok.sm (.inr (.inr ⟨_, rfl⟩))
      · rw [if_neg (fun q => h3 (of_decide_eq_true q))]
        exact Ok.sm (.inl ⟨_, rfl, joined7 .either _ op_cl.2 rfl rfl rfl hP hR ez2 h3⟩)
end

/-! ### the text told of what is read; spoiled texts -/
section
theorem str_snd : ∀ (P : Pat), (cl (pTxt P)).length ≤ 900 → P.str = some (pTxt P)
  | .form ps, h => by
    have e : (cl (pTxt (.form ps))).length = (ps.map (·.length)).sum := by
      show (cl (Txt.join ("" : Str) ps)).length = _
      rw [join_cl]
      clear h
      induction ps with
      | nil => rfl
      | cons p ps ih => rw [List.flatMap_cons, List.length_append, ih, List.map_cons, List.sum_cons, ← cl_len]
    rw [e] at h
    show gd (joinOk ("" : Str) ps) _ = _
    have g : joinOk ("" : Str) ps = true := decide_eq_true (by rw [e0len]; omega)
    rw [gd_true g]; rfl
  | .both l r, h => by
    have e : cl (pTxt (.both l r)) = _ := joinP_cl 38 op_cl.1
    have le := congrArg List.length e
    simp only [List.length_append, List.length_cons, List.length_nil] at le
    have hl := str_snd l (by omega)
    have hr := str_snd r (by omega)
    show (l.str.bind fun x => r.str.bind fun y => gd (joinPok (" & " : Str) x y) (some (joinP (" & " : Str) x y))) = _
    rw [hl, bs, hr, bs, gd_true]
    · rfl
    · unfold joinPok
      rw [decide_eq_true (by rw [cl_len, sizeLine_eq]; omega), decide_eq_true (by rw [cl_len, sizeLine_eq]; omega), decide_eq_true (by rw [cl_len, sizeLine_eq]; exact Nat.le_trans h (by decide))]
      rfl
  | .either l r, h => by
    have e : cl (pTxt (.either l r)) = _ := joinP_cl 124 op_cl.2
    have le := congrArg List.length e
    simp only [List.length_append, List.length_cons, List.length_nil] at le
    have hl := str_snd l (by omega)
    have hr := str_snd r (by omega)
    show (l.str.bind fun x => r.str.bind fun y => gd (joinPok (" | " : Str) x y) (some (joinP (" | " : Str) x y))) = _
    rw [hl, bs, hr, bs, gd_true]
    · rfl
    · unfold joinPok
      rw [decide_eq_true (by rw [cl_len, sizeLine_eq]; omega), decide_eq_true (by rw [cl_len, sizeLine_eq]; omega), decide_eq_true (by rw [cl_len, sizeLine_eq]; exact Nat.le_trans h (by decide))]
      rfl
open StrLaws in
/-- all places of one sign are counted -/
theorem occ_all (x : Str) (c lim : Nat) : ∀ (m lo : Nat) (st : Array Nat × Nat), st.snd ≤ lo → lo + m ≤ x.length + 1 → st.fst.size + m ≤ lim → st.fst.size + ((cl x).drop lo |>.take m).count c ≤ (idV (forIn (List.range' lo m) st (occBody x ⟨#[c]⟩ x.length lim))).fst.size
  | 0, lo, st, _, _, _ => by rw [List.take_zero]; exact Nat.le_refl _
  | m + 1, lo, st, h1, h2, h3 => by
    rw [List.range'_succ, List.forIn_cons]
    unfold occBody
    have sz : (⟨#[c]⟩ : Str).length = 1 := rfl
    by_cases e : (cl x)[lo]? = some c
    · have hl := (List.getElem?_eq_some_iff.mp e).1
      have hx : lo + 1 ≤ x.length := by rw [cl_len]; omega
      obtain ⟨q1, q2⟩ := (subAt_one x c lo).mpr e
      rw [if_pos ⟨⟨⟨by omega, h1⟩, by rw [sz]; exact hx⟩, q2⟩]
      have := occ_all x c lim m (lo + 1) (st.fst.push lo, lo + (⟨#[c]⟩ : Str).length) (by rw [sz]; exact Nat.le_refl _) (by omega) (by show (st.fst.push lo).size + m ≤ lim; rw [Array.size_push]; omega)
      simp only [Array.size_push] at this
      have e2 : (cl x)[lo] = c := Option.some.inj ((List.getElem?_eq_getElem hl).symm.trans e)
      have ed : (cl x).drop lo = c :: (cl x).drop (lo + 1) := (List.drop_eq_getElem_cons hl).trans (congrArg (· :: (cl x).drop (lo + 1)) e2)
      rw [ed, List.take_succ_cons, List.count_cons_self]
      have t2 : st.fst.size + (((cl x).drop (lo + 1)).take m).count c + 1 ≤ (idV (forIn (List.range' (lo + 1) m) (st.fst.push lo, lo + (⟨#[c]⟩ : Str).length) (occBody x ⟨#[c]⟩ x.length lim))).fst.size := by omega
      exact t2
    · rw [if_neg (fun q => e ((subAt_one x c lo).mp ⟨q.1.2, q.2⟩))]
      have := occ_all x c lim m (lo + 1) st (by omega) (by omega) (by omega)
      have le : (((cl x).drop lo).take (m + 1)).count c ≤ (((cl x).drop (lo + 1)).take m).count c := by
        by_cases hl : lo < (cl x).length
        · have e2 : (cl x)[lo] ≠ c := fun q => e (by rw [List.getElem?_eq_getElem hl, q])
          rw [List.drop_eq_getElem_cons hl, List.take_succ_cons, List.count_cons_of_ne e2]
          exact Nat.le_refl _
        · rw [List.drop_of_length_le (by omega), List.take_nil]; exact Nat.zero_le _
      have t2 : st.fst.size + (((cl x).drop lo).take (m + 1)).count c ≤ (idV (forIn (List.range' (lo + 1) m) (st.fst, st.snd) (occBody x ⟨#[c]⟩ x.length lim))).fst.size := Nat.le_trans (Nat.add_le_add_left le _) this
      exact t2
theorem count_ge (x : Str) (c : Nat) : ((cl x).count c : Int) ≤ Txt.count x ⟨#[c]⟩ := by
  unfold Txt.count
  rw [StrLaws.occ_eq, Array.length_toList]
  have h1 := occ_all x c (x.length + 1) (x.length + 1 - 0) 0 (#[], 0) (Nat.le_refl _) (by omega) (by show 0 + _ ≤ _; omega)
  rw [List.drop_zero, List.take_of_length_le (by rw [← cl_len]; omega)] at h1
  have h3 : ((#[] : Array Nat), 0).fst.size = 0 := rfl
  rw [h3, Nat.zero_add] at h1
  exact Int.ofNat_le.mpr h1
theorem read_snd {z : Str} (hz : z.length ≤ 900) : Ok (m_read_pattern_vx z) fun r => (∃ P, r = .ok P ∧ m_pat___str__ P = some z) ∨ r = .error z := by
  unfold m_read_pattern_vx
  refine Ok.ite (fun _ => Ok.sm (.inr rfl)) fun q => ?_
  have hc : (cl z).count 40 + 1 ≤ 3 := by
    have h1 := count_ge z 40
    have h2 := of_decide_eq_false q
    rw [lit_signs.1] at h2
    omega
  refine Ok.bd (pat_snd 3 z z hz (Nat.le_refl _) hc) fun r hr => ?_
  rcases hr with ⟨P, rfl, h1, h2, h3⟩ | rfl | ⟨o, rfl⟩
  · refine Ok.sm (.inl ⟨P, rfl, ?_⟩)
    have e : m_pat___str__ P = P.str := patN_of (by omega) (by omega)
    rw [e, str_snd P (by rw [h1, ← cl_len]; exact hz), h1]
  · exact Ok.sm (.inr rfl)
  · exact Ok.sm (.inr rfl)
theorem same_ok {z : Str} (hz : z.length ≤ 900) : m_law_same_or_none z = some true := by
  unfold m_law_same_or_none
  refine Ok.eq (Ok.bd (read_snd hz) fun r hr => ?_)
  rcases hr with ⟨P, rfl, hP⟩ | rfl
  · show Ok ((m_pat___str__ P).bind _) _
    rw [hP, bs]
    exact Ok.sm (decide_eq_true rfl)
  · refine Ok.sm ?_
    rw [decide_eq_true rfl]; rfl
theorem ix_len {t : Str} {n : Nat} {i : Int} (ht : t.length = n) (h0 : 0 ≤ i) (h1 : i < (n : Int)) (hn : n ≤ 900) : ∃ c, ixS t i = some c ∧ c.length = 1 := by
  have hi : i.toNat < (cl t).length := by rw [← cl_len]; omega
  have := ix_at (z := t) (k := i.toNat) (by omega) (List.getElem?_eq_getElem hi)
  rw [show ((i.toNat : Nat) : Int) = i by omega] at this
  exact ⟨_, this, rfl⟩
theorem sign_ok7 {p : Int × Int} : Ok (m_law_sign p) fun r => r.1.length = 1 := by
  unfold m_law_sign
  have l1 : ("()&| <>a1" : Str).length = 9 := by decide +kernel
  have l2 : ((" !\"#$&'()*+,-./0123456789:;<=>?@ABCDEFGHIJKLMNOPQRSTUVWXYZ[\\]^_`" : Str) ++ ("abcdefghijklmnopqrstuvwxyz{|}~\n\t" : Str)).length = 96 := by decide +kernel
  refine Ok.gd (by decide +kernel) (Ok.bd (take_ok (by decide) (by decide)) fun a _ => Ok.ite (fun _ => ?_) fun _ => ?_)
  · refine Ok.bd (take_ok (by decide) (by decide)) fun b hb => ?_
    obtain ⟨c, e, l⟩ := ix_len l1 hb.1 hb.2 (by decide)
    exact Ok.bde e (Ok.sm l)
  · refine Ok.bd (take_ok (by decide) (by decide)) fun b hb => ?_
    obtain ⟨c, e, l⟩ := ix_len l2 hb.1 hb.2 (by decide)
    exact Ok.bde e (Ok.sm l)
theorem bent_ok {p : Int × Int} {z : Str} {n : Nat} (hz : z.length ≤ n) (hn : n ≤ 800) : Ok (m_law_bent p z) fun r => r.1.length ≤ n + 1 := by
  unfold m_law_bent
  have cN : ∀ (a b : Option Int), (cutS z a b).length ≤ z.length := fun a b => by
    rw [cl_len, cl_cut, cl_len]
    unfold cut
    rw [List.length_take, List.length_drop]; omega
  refine Ok.gd (fitsS_ok (by omega)) (Ok.bd (take_ok (by omega) (by omega)) fun a ha => Ok.bd (take_ok (by decide) (by decide)) fun w _ => ?_)
  have c1 : (cutS z none (some a.1)).length = a.1.toNat := by
    rw [cl_len, cl_cut, cut_to _ ha.1, List.length_take, ← cl_len]
    have := ha.2
    omega
  have c2 : (cutS z (some a.1) none).length = z.length - a.1.toNat := by
    rw [cl_len, cl_cut, cut_from _ ha.1, List.length_drop, ← cl_len]
  have c3 := cN (some (a.1 + 1)) none
  have c3' : (cutS z (some (a.1 + 1)) none).length ≤ z.length - a.1.toNat := by
    rw [cl_len, cl_cut, cut_from _ (by have := ha.1; omega), List.length_drop, ← cl_len]
    have := ha.1
    omega
  have h2 := ha.2
  refine Ok.ite (fun _ => Ok.gd (fitsS_ok (by omega)) (Ok.bd sign_ok7 fun s hs => Ok.gd (catOk_ok (by omega)) (Ok.gd (fitsS_ok (by omega)) (Ok.gd (catOk_ok (by rw [len_app]; omega)) (Ok.sm ?_))))) fun _ => Ok.ite (fun _ => Ok.gd (fitsS_ok (by omega)) (Ok.gd (fitsS_ok (by omega)) (Ok.gd (catOk_ok (by omega)) (Ok.sm ?_)))) fun _ => Ok.gd (fitsS_ok (by omega)) (Ok.bd sign_ok7 fun s hs => Ok.gd (catOk_ok (by omega)) (Ok.gd (fitsS_ok (by omega)) (Ok.gd (catOk_ok (by rw [len_app]; omega)) (Ok.sm ?_))))
  · show (_ ++ _ ++ _ : Str).length ≤ _
    rw [len_app, len_app]; omega
  · show (_ ++ _ : Str).length ≤ _
    rw [len_app]; omega
  · show (_ ++ _ ++ _ : Str).length ≤ _
    rw [len_app, len_app]; omega
theorem odd_ok : Ok m_law_odd fun l => ∀ t ∈ l, m_law_refused t = some true := by
  have h : (m_law_odd.any fun l => l.all fun t => m_law_refused t == some true) = true := by decide +kernel
  cases e : m_law_odd with
  | none => rw [e] at h; cases h
  | some l =>
    rw [e] at h
    exact Ok.sm fun t ht => eq_of_beq (List.all_eq_true.mp h t ht)
end

/-! ### k07: pattern texts spoiled -/
theorem math (ns : List Int) (h : ns.length ≤ 63) : m_law ns = some true := by
  unfold m_law
  have hm : 0 ≤ maxI 1 (minI 40 (ns.length : Int)) ∧ maxI 1 (minI 40 (ns.length : Int)) ≤ 40 := by
    unfold maxI minI
    split <;> split <;> omega
  refine Ok.eq (Ok.bd odd_ok fun od ho => Ok.bd (Ok.loopN (fun _ _ => True) trivial fun pre t post u e _ => ?_) ?_)
  · unfold m_law_b1
    rw [ho t (by rw [e]; simp), bs, if_neg (by decide)]
    exact Ok.sm ⟨_, rfl, trivial⟩
  rintro _ ⟨_, rfl, _⟩
  refine Ok.gd (rgOk_ok (by omega) (by omega) (by omega) (by omega)) (Ok.bd (Ok.loopN (fun _ _ => True) trivial fun pre k post q e _ => ?_) ?_)
  · have hk := (rng_at e).2.2
    unfold m_law_b3
    refine Ok.bd (pool_ok (by omega) (by omega)) fun p1 _ => Ok.bd (take_ok (by decide) (by decide)) fun d1 h1 => Ok.gd (rgOk_ok (by omega) (by omega) (by omega) (by omega)) (Ok.gd (fitsE_ok (by rw [rng_len]; omega)) ?_)
    refine Ok.bd (comp_all5 (P := fun ps => alw ps ∧ 1 ≤ ps.length ∧ ps.length ≤ 4) fun x _ s => ?_) fun t60 ⟨lf, hfs⟩ => ?_
    · unfold m_law_b2
      exact Ok.bd rich_alw fun r hr => Ok.sm ⟨r.1, rfl, hr⟩
    rw [rng_len] at lf
    have n1 : 1 ≤ t60.1.length := by omega
    have n3 : t60.1.length ≤ 3 := by omega
    refine Ok.bd (shape_ok n1 (by omega)) fun t hsh => ?_
    have hd := ShR.dep_le hsh
    have hP : okP (patSh t60.1 t.1) := patSh_ok hfs hsh (by omega) (by omega)
    have eF : (patSh t60.1 t.1).forms = t60.1 := by rw [patSh_forms hsh (by omega), List.drop_zero, List.take_length]
    have hht := patSh_ht (fs := t60.1) hsh
    have lz := pTxt_len hP (by rw [eF]; exact n3)
    refine Ok.bde (shown_eq hfs hsh (by omega) (by omega) 3 (by omega)) (Ok.bd (bent_ok lz (by omega)) fun b1 hb1 => ?_)
    refine Ok.bd (P := fun r => r.2.length ≤ 202) (Ok.bd (take_ok (by decide) (by decide)) fun c _ => Ok.ite (fun _ => Ok.bd (bent_ok hb1 (by omega)) fun b2 hb2 => Ok.sm hb2) fun _ => Ok.sm (by show b1.1.length ≤ 202; omega)) fun b3 hb3 => ?_
    have hb : b3.2.length ≤ 900 := by have := hb3; omega
    refine Ok.bde (same_ok hb) (Ok.bde (a := false) ?_ ?_)
    · rw [if_neg (by decide), read_ok hP (by rw [eF]; exact n3) (by omega), bs, str_eq hP, bs, decide_eq_true rfl]; rfl
    · rw [if_neg (by decide)]
      exact Ok.sm ⟨_, rfl, trivial⟩
  · rintro _ ⟨_, rfl, _⟩
    exact Ok.sm rfl

theorem txHead {P : Program} {K : PySem.W.Frag} {h : Heap} {mg : Str → Option Value} (X : K.In h) (G : h.Ns mainGlobals mg) (c : He.SaysD fa fn K) (t : tabs P K = true) (e_NoForm : fw_NoForm K) (e_NoText : fw_NoText K) : Tx P K mg := {
  F_Form___str__ := fd_of c 0
  F_Both___str__ := fd_of c 1
  F_Either___str__ := fd_of c 2
  F_law_odd := fd_of c 3
  g_law_odd := He.glo_ok X G (c.fact 0)
  F_Pattern___eq__ := fd_of c 4
  F_law_pool := fd_of c 5
  g_law_pool := He.glo_ok X G (c.fact 1)
  F_law_shown := fd_of c 6
  g_law_shown := He.glo_ok X G (c.fact 2)
  F_law_take := fd_of c 7
  g_law_take := He.glo_ok X G (c.fact 3)
  F_law_sign := fd_of c 8
  g_law_sign := He.glo_ok X G (c.fact 4)
  F_law_bent := fd_of c 9
  g_law_bent := He.glo_ok X G (c.fact 5)
  F_middle_of := fd_of c 10
  g_middle_of := He.glo_ok X G (c.fact 6)
  F_Form_forms := fd_of c 11
  F_Either_forms := fd_of c 12
  F_Both_forms := fd_of c 13
  F_Both___init__ := fd_of c 14
  F_Pattern___and__ := fd_of c 15
  F_Either___init__ := fd_of c 16
  F_Pattern___or__ := fd_of c 17
  F_parts_of := fd_of c 18
  g_parts_of := He.glo_ok X G (c.fact 7)
  F_is_line := fd_of c 19
  g_is_line := He.glo_ok X G (c.fact 8)
  F_is_allowed := fd_of c 20
  g_is_allowed := He.glo_ok X G (c.fact 9)
  F_Form___init__ := fd_of c 21
  F_pattern_of := fd_of c 22
  g_pattern_of := He.glo_ok X G (c.fact 10)
  F_read_pattern := fd_of c 23
  g_read_pattern := He.glo_ok X G (c.fact 11)
  F_law_refused := fd_of c 24
  g_law_refused := He.glo_ok X G (c.fact 12)
  F_law_all_signs := fd_of c 25
  g_law_all_signs := He.glo_ok X G (c.fact 13)
  F_law_text := fd_of c 26
  g_law_text := He.glo_ok X G (c.fact 14)
  F_law_rich := fd_of c 27
  g_law_rich := He.glo_ok X G (c.fact 15)
  F_law_shape := fd_of c 28
  g_law_shape := He.glo_ok X G (c.fact 16)
  F_law_same_or_none := fd_of c 29
  g_law_same_or_none := He.glo_ok X G (c.fact 17)
  F_law := fd_of c 30
  g_law := He.glo_ok X G (c.fact 18)
  c_Form := He.cls_ok (c.fact 20)
  gc_Form := He.glo_ok X G (c.fact 19)
  na_Form_pieces := He.noat_ok (c.fact 21)
  me_Form___str__ := He.meth_ok (c.fact 22)
  me_Form_forms := He.meth_ok (c.fact 23)
  mk_Form := He.mkr_ok (c.fact 24)
  c_Both := He.cls_ok (c.fact 26)
  gc_Both := He.glo_ok X G (c.fact 25)
  na_Both_left := He.noat_ok (c.fact 27)
  na_Both_right := He.noat_ok (c.fact 28)
  me_Both___str__ := He.meth_ok (c.fact 29)
  me_Both_forms := He.meth_ok (c.fact 30)
  mk_Both := He.mkr_ok (c.fact 31)
  c_Either := He.cls_ok (c.fact 33)
  gc_Either := He.glo_ok X G (c.fact 32)
  na_Either_left := He.noat_ok (c.fact 34)
  na_Either_right := He.noat_ok (c.fact 35)
  me_Either___str__ := He.meth_ok (c.fact 36)
  me_Either_forms := He.meth_ok (c.fact 37)
  mk_Either := He.mkr_ok (c.fact 38)
  c_Pattern := He.cls_ok (c.fact 40)
  gc_Pattern := He.glo_ok X G (c.fact 39)
  me_Pattern___eq__ := He.meth_ok (c.fact 41)
  me_Pattern___and__ := He.meth_ok (c.fact 42)
  me_Pattern___or__ := He.meth_ok (c.fact 43)
  pf := patB_ok (He.ba t).1 (He.cls_ok (c.fact 20)) (He.cls_ok (c.fact 26)) (He.cls_ok (c.fact 33))
  er_NoForm := er_ok X G (He.ba (He.ba (He.ba t).2).2).1 e_NoForm
  er_NoText := er_ok X G (He.ba (He.ba (He.ba (He.ba t).2).2).2).1 e_NoText
  xm_NoForm_NoForm := exmB_ok (He.ba (He.ba (He.ba (He.ba (He.ba t).2).2).2).2).1
  xm_NoText_NoText := exmB_ok (He.ba (He.ba (He.ba (He.ba (He.ba (He.ba t).2).2).2).2).2).1
  xn_NoText_NoForm := exnB_ok (He.ba (He.ba (He.ba (He.ba (He.ba (He.ba (He.ba t).2).2).2).2).2).2).1
  ie_NoText := (He.ba (He.ba (He.ba (He.ba (He.ba (He.ba (He.ba (He.ba t).2).2).2).2).2).2).2).1
  ki_NoText_GlueError := (He.ba (He.ba (He.ba (He.ba (He.ba (He.ba (He.ba (He.ba (He.ba t).2).2).2).2).2).2).2).2).1
  ki_NoText_NoForm := (He.ba (He.ba (He.ba (He.ba (He.ba (He.ba (He.ba (He.ba (He.ba (He.ba t).2).2).2).2).2).2).2).2).2).1
  ki_NoText_ValueError := (He.ba (He.ba (He.ba (He.ba (He.ba (He.ba (He.ba (He.ba (He.ba (He.ba (He.ba t).2).2).2).2).2).2).2).2).2).2).1
  gx_GlueError := He.glo_ok X G (c.fact 44)
  gx_NoForm := He.glo_ok X G (c.fact 45)
  gx_NoText := He.glo_ok X G (c.fact 46)
  k_ANY_CELL := He.str_ok X G (c.fact 56)
  g_FREE_CELLS := He.glo_ok X G (c.fact 57)
  q_FREE_CELLS := fun F => ⟨_, _, rfl, He.tupB_ok (He.ba (He.ba t).2).1 F, (.cons rfl (.cons rfl (.cons rfl .nil)))⟩
  k_MOST_FORMS := He.int_ok X G (c.fact 58)
  k_MOST_PARTS := He.int_ok X G (c.fact 59)
  k_MOST_SIGNS := He.int_ok X G (c.fact 60)
  k_SIGNS := He.str_ok X G (c.fact 61)
  n_ValueError := He.free_ok X G (c.fact 47)
  n_enumerate := He.free_ok X G (c.fact 48)
  n_int := He.free_ok X G (c.fact 49)
  n_isinstance := He.free_ok X G (c.fact 50)
  n_len := He.free_ok X G (c.fact 51)
  n_max := He.free_ok X G (c.fact 52)
  n_min := He.free_ok X G (c.fact 53)
  n_range := He.free_ok X G (c.fact 54)
  n_str := He.free_ok X G (c.fact 55)
}

theorem law_fn {P : Program} {w : World} {K : PySem.W.Frag} {h : Heap} {mg : Str → Option Value} {f : Addr} (X : K.In h) (G : h.Ns mainGlobals mg) (hfa : mg ("law" : Str) = some (.ref f)) (c : He.SaysD fa fn K) (t : tabs P K = true) (e_NoForm : fw_NoForm K) (e_NoText : fw_NoText K) :
    ∃ (K' : PySem.W.Frag) (fd : FuncData) (sp : L2.Sp), K'.In h ∧ (∀ (s : Shared) (v : Value), BindsTo s fd ⟨[v], []⟩ [("_law_script", v)]) ∧ (∀ (H : Hp) (a : Addr) (ns : List Int), ns.length ≤ 63 → Only H → SqL K' H a (ns.map V.int) → sp [.ref a] H (fun v _ => v = .bl true) fun _ _ _ => False) ∧ ∀ base : Heap, K'.In base → base.Ns mainGlobals mg → FnOk P w K' mg base CX0 14 f fd ["_law_script"] sp := by
  have T : Tx P K mg := txHead X G c t e_NoForm e_NoText
  have e := hfa.symm.trans T.g_law
  cases e
  have b := FunD.bindsA (ps := ["_law_script"]) T.F_law fun _ _ _ _ _ _ us hl => match us, hl with | [_], _ => rfl
  refine ⟨K, _, sp_law K, X, fun s v => b s [v] rfl, fun H a ns hl _ hS => ?_, fun base _ _ => ok_law T⟩
  exact ⟨H, .ref a, ns, true, rfl, Same.refl H, ⟨a, rfl, hS⟩, math ns hl, fun v F' H' _ hv => hv⟩
theorem hk_says {K : PySem.W.Frag} (c : obK K = (true, [rhs_NoForm, rhs_NoText], He.valD fn)) : He.SaysD fa fn K ∧ tabs RR.prog K = true ∧ fw_NoForm K ∧ fw_NoText K := by
  have h1 : (tabs RR.prog K && decide ((fwL_NoForm K).map (fun z => z.2.2.2.2.2.2.1) = some (clo_NoForm K)) && decide ((fwL_NoText K).map (fun z => z.2.2.2.2.2.2.1) = some (clo_NoText K))) = true := congrArg Prod.fst c
  have h2 : ([lhs_NoForm K, lhs_NoText K] : List FnU) = [rhs_NoForm, rhs_NoText] := congrArg (fun z : Bool × List FnU × He.AlD => z.2.1) c
  have h3 : He.SaysD fa fn K := congrArg (fun z : Bool × List FnU × He.AlD => z.2.2) c
  obtain ⟨h1, b1⟩ := He.ba h1
  obtain ⟨h1, b0⟩ := He.ba h1
  obtain ⟨a0, h2⟩ := List.cons.inj h2
  obtain ⟨a1, h2⟩ := List.cons.inj h2
  exact ⟨h3, h1, fw_mk a0 b0, fw_mk a1 b1⟩
end Law
open PySem PySem.W PySem.Calls PyProof.Rows
theorem PySem.Challenge.cw_gluedlines_k07_whole_pattern_texts_spoil_holds : PySem.Challenge.rw_gluedlines_k07_whole_pattern_texts_spoil.Holds := by
  w_on; o_law
  refine HandSHeadRun.head_any (r := OpenLaw.row PySem.Challenge.rw_gluedlines_k07_whole_pattern_texts_spoil) (q := view (OpenLaw.row PySem.Challenge.rw_gluedlines_k07_whole_pattern_texts_spoil).prog [47]) (H := Law.hk) (ob := Law.ob) (M := 60000) (loose := Law.loose) (d := HandSHeadRun.topDef (OpenLaw.row PySem.Challenge.rw_gluedlines_k07_whole_pattern_texts_spoil).prog 47) (kwd := []) Law.ob_eq
    (by kernel_rfl) (fun s => by kernel_rfl) Law.run (by kernel_rfl) (by kernel_rfl) (by kernel_rfl) (by rfl) (by first | assumption | decide +kernel) (by decide +kernel) ⟨rfl, rfl, rfl, rfl, rfl, by decide +kernel⟩ ?hw ?hc
  case hw => w_witness2
  case hc =>
    refine L2.walk_ofE (l := PySem.Challenge.rw_gluedlines_k07_whole_pattern_texts_spoil) (n := 63) (k := 14) (x := "_law_script") (CX := L2.CX0) rfl (by decide) (by kernel_rfl) ⟨rfl, by decide, by decide⟩ ?F (fun _ _ _ _ z => z)
    intro w mg fa h Y G hmg0
    obtain ⟨K, KX, c⟩ := Y
    have hmg : mg ("law" : PySem.Str) = some (.ref fa) := by
      have e : (HandSHeadRun.topDef (OpenLaw.row PySem.Challenge.rw_gluedlines_k07_whole_pattern_texts_spoil).prog 47).name = ("law" : PySem.Str) := by kernel_rfl
      rw [← e]
      exact hmg0
    obtain ⟨c, t, e0, e1⟩ := Law.hk_says c
    exact Law.law_fn KX G hmg c t e0 e1
#print axioms PySem.Challenge.cw_gluedlines_k07_whole_pattern_texts_spoil_holds
