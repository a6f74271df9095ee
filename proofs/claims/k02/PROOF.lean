import PyProof.Rows.All
import Wide.All
import OpenK.AllK
import Wide.FinOn
import KE.KStateDown
import HandS.ForMost
import HandS.Exc
import HandS.WordsExc
import HandS.Defaults
import HandS.Conv
import HandS.Flow
import HandS.IsInst
import HandS.Codes
import HandS.Dict
import HandS.Star
import HandS.Iter
import HandS.Zip
import HandS.Text
import HandS.TupAny
import HandS.Style
import HandS.SortInts
import PyProof.Rows.TmSorted
import PyProof.Rows.SortStr
import KE.KeyNested
import PyProof.DictRoadsH
import PyProof.Rows.TupTab
import HandS.Head0
import HandS.Head1
import HandS.Head2
import HandS.HeadEnd
import HandS.HeadHook1
import HandS.HeadHook2
import KE.KOpsOwn
import KE.KExcSuper
import HandS.ExcInit
import HandS.ExcField
import KE.SortData
import HandS.DictTup
import PyProof.DictMoreH
import HandS.NoneIn
import HandS.SetFor
import HandS.Strs
import KE.DataCmp
import HandS.Replace
import HandS.ReplaceList
import KE.KDictSum
import KE.KDictCopyH
import KE.KCallOwn
import HandS.FStr
import HandS.ExcValue
import HandS.Deep
import HandS.ExcOwn
import KE.KExcIs
import HandS.Property
import HandS.MakeKwOnly
import HandS.ClsMeth
import HandS.SetBool
import HandS.TupSets
import HandS.CallSlots
import HandS.SuiteRaise
import HandS.RaiseFrom
import PySem.Challenge.RW_gluedlines_k02_forms_made_or_refused
set_option Elab.async false
set_option linter.all false
set_option maxRecDepth 100000
set_option maxHeartbeats 4000000
set_option synthInstance.maxSize 1000
set_option synthInstance.maxHeartbeats 400000
namespace Gl
open PySem PySem.Spec PyProof.Rows L2
/-! ## partial results -/
def gd {α : Type} (b : Bool) (x : Option α) : Option α := match b with
  | true => x
  | false => none
theorem gd_some {α : Type} {b : Bool} {x : Option α} {r : α} (h : gd b x = some r) : b = true ∧ x = some r := by
  cases b with
  | true => exact ⟨rfl, h⟩
  | false => cases h
theorem gd_true {α : Type} {b : Bool} {x : Option α} (h : b = true) : gd b x = x := by rw [h]; rfl
theorem bd_some {α β : Type} {x : Option α} {k : α → Option β} {r : β} (h : x.bind k = some r) : ∃ a, x = some a ∧ k a = some r := by
  cases x with
  | none => cases h
  | some a => exact ⟨a, rfl, h⟩
/-- how a block ends: it goes on, it breaks off its loop, or it returns -/
inductive Ctl (S R : Type) where
  | nx (s : S) | bk (s : S) | rt (r : R)

/-! ## values that stand for Lean's -/
theorem pGet {α β : Type} {R : α → β → Prop} : ∀ {xs : List α} {ys : List β} {i : Nat} {y : β}, Paired R xs ys → ys[i]? = some y → ∃ x, xs[i]? = some x ∧ R x y
  | _, _, _, _, .nil, e => by simp at e
  | _, _, 0, _, .cons r _, e => by simp at e; subst e; exact ⟨_, rfl, r⟩
  | _, _, i + 1, y, .cons _ t, e => by
    obtain ⟨x, h1, h2⟩ := pGet (i := i) (y := y) t (by simpa using e)
    exact ⟨x, by simpa using h1, h2⟩
theorem pApp {α β : Type} {R : α → β → Prop} : ∀ {xs xs' : List α} {ys ys' : List β}, Paired R xs ys → Paired R xs' ys' → Paired R (xs ++ xs') (ys ++ ys')
  | _, _, _, _, .nil, s => s
  | _, _, _, _, .cons r t, s => .cons r (pApp t s)
theorem pDrop {α β : Type} {R : α → β → Prop} : ∀ {xs : List α} {ys : List β} (n : Nat), Paired R xs ys → Paired R (xs.drop n) (ys.drop n)
  | _, _, 0, r => r
  | _, _, _ + 1, .nil => .nil
  | _, _, n + 1, .cons _ t => pDrop n t
theorem pTake {α β : Type} {R : α → β → Prop} : ∀ {xs : List α} {ys : List β} (n : Nat), Paired R xs ys → Paired R (xs.take n) (ys.take n)
  | _, _, 0, _ => .nil
  | _, _, _ + 1, .nil => .nil
  | _, _, n + 1, .cons r t => .cons r (pTake n t)
theorem pLen {α β : Type} {R : α → β → Prop} {xs : List α} {ys : List β} (h : Paired R xs ys) : xs.length = ys.length := h.length
/-- how values stand for Lean's, in what stands for good -/
structure R (α : Type) where
  r : PySem.W.Frag → Hp → V → α → Prop
  mono : ∀ {K : PySem.W.Frag} {F F' : Hp} {v : V} {a : α}, Same F F' → r K F v a → r K F' v a
def qI : R Int := ⟨fun _ _ v i => v = .int i, fun _ h => h⟩
def qB : R Bool := ⟨fun _ _ v i => v = .bl i, fun _ h => h⟩
def qS : R Str := ⟨fun _ _ v i => v = .str i, fun _ h => h⟩
def qO {α : Type} (A : R α) : R (Option α) := ⟨fun K F v i => match i with
  | none => v = .non
  | some a => A.r K F v a, fun {K F F' v a} e h => by
    cases a with
    | none => exact h
    | some a => exact A.mono e h⟩
/-- all of a row -/
abbrev Row {α : Type} (A : R α) (K : PySem.W.Frag) (F : Hp) (vs : List V) (xs : List α) : Prop := Paired (fun v x => A.r K F v x) vs xs
theorem Row.mono {α : Type} {A : R α} {K : PySem.W.Frag} {F F' : Hp} {vs : List V} {xs : List α} (e : Same F F') (h : Row A K F vs xs) : Row A K F' vs xs := Paired.mapP h fun _ _ r => A.mono e r
theorem same_t {K : PySem.W.Frag} {H H' : Hp} {a : Addr} {xs : List V} (e : Same H H') (h : SqT K H a xs) : SqT K H' a xs := by
  rcases h with (h | ⟨o, h⟩) | h
  · exact .inl (.inl (e _ _ h))
  · exact .inl (.inr ⟨o, e _ _ h⟩)
  · exact .inr h
/-- a list, a tuple, one of both -/
def qL {α : Type} (A : R α) : R (List α) := ⟨fun K F v xs => ∃ p vs, v = .ref p ∧ F p = some (.lst vs) ∧ Row A K F vs xs, fun e ⟨p, vs, h1, h2, h3⟩ => ⟨p, vs, h1, e _ _ h2, Row.mono e h3⟩⟩
def qT {α : Type} (A : R α) : R (List α) := ⟨fun K F v xs => ∃ p vs, v = .ref p ∧ SqT K F p vs ∧ Row A K F vs xs, fun e ⟨p, vs, h1, h2, h3⟩ => ⟨p, vs, h1, same_t e h2, Row.mono e h3⟩⟩
def qQ {α : Type} (A : R α) : R (List α) := ⟨fun K F v xs => (qL A).r K F v xs ∨ (qT A).r K F v xs, fun e h => h.elim (fun h => .inl ((qL A).mono e h)) fun h => .inr ((qT A).mono e h)⟩
/-- tuples of two, of three -/
def q2 {α β : Type} (A : R α) (B : R β) : R (α × β) := ⟨fun K F v x => ∃ p u w, v = .ref p ∧ SqT K F p [u, w] ∧ A.r K F u x.1 ∧ B.r K F w x.2, fun e ⟨p, u, w, h1, h2, h3, h4⟩ => ⟨p, u, w, h1, same_t e h2, A.mono e h3, B.mono e h4⟩⟩
def q3 {α β γ : Type} (A : R α) (B : R β) (C : R γ) : R (α × β × γ) := ⟨fun K F v x => ∃ p u w z, v = .ref p ∧ SqT K F p [u, w, z] ∧ A.r K F u x.1 ∧ B.r K F w x.2.1 ∧ C.r K F z x.2.2, fun e ⟨p, u, w, z, h1, h2, h3, h4, h5⟩ => ⟨p, u, w, z, h1, same_t e h2, A.mono e h3, B.mono e h4, C.mono e h5⟩⟩

/-! ## frozen and owned -/
/-- F: what stands for good within H; F0, H0: at the def's entry; P: what the def may change of it -/
structure Sx (P : Addr → Prop) (F0 H0 F H : Hp) : Prop where
  le : Same F0 F
  sub : Same F H
  new : ∀ a o, F a = some o → F0 a = none → H0 a = none ∨ P a
  same : ∀ a o, H0 a = some o → ¬ P a → H a = some o
  live : ∀ a, P a → H a ≠ none
/-- an object of the def's own: it may change it -/
structure Ow (P : Addr → Prop) (H0 F H : Hp) (p : Addr) (o : HO) : Prop where
  fr : F p = none
  at_ : H p = some o
  mine : H0 p = none ∨ P p
abbrev P0 : Addr → Prop := fun _ => False
section
variable {P P' : Addr → Prop} {F0 H0 F H F' H' : Hp} {p q : Addr} {o u : HO}
theorem Sx.refl (h : Same F H) (l : ∀ a, P a → H a ≠ none) : Sx P F H F H := ⟨Same.refl F, h, fun a o e n => absurd (n.symm.trans e) (fun z => nomatch z), fun _ _ e _ => e, l⟩
theorem Sx.refl0 (h : Same F H) : Sx P0 F H F H := Sx.refl h fun _ z => z.elim
theorem Sx.free (S : Sx P F0 H0 F H) (h : H q = none) : F q = none := S.sub.free h
theorem Sx.free0 (S : Sx P F0 H0 F H) (h : H q = none) : H0 q = none := by
  cases e : H0 q with
  | none => rfl
  | some o =>
    have np : ¬ P q := fun z => S.live q z h
    have := S.same q o e np
    rw [h] at this
    cases this
theorem Sx.leN (S : Sx P F0 H0 F H) (h : H q = none) : Same F (upd F q o) := fun a u e => by
  rw [upd_ne (ne_of_none e (S.free h))]
  exact e
/-- a new object that is not kept -/
theorem Sx.temp (S : Sx P F0 H0 F H) (h : H q = none) : Sx P F0 H0 F (upd H q o) := by
  refine ⟨S.le, fun a u e => ?_, S.new, fun a u e n => ?_, fun a z => ?_⟩
  · rw [upd_ne (ne_of_none (S.sub a u e) h)]; exact S.sub a u e
  · rw [upd_ne (ne_of_none (S.same a u e n) h)]; exact S.same a u e n
  · have l := S.live a z
    have ne : a ≠ q := fun e => l (by rw [e]; exact h)
    rw [upd_ne ne]; exact l
/-- a new object that stands for good -/
theorem Sx.alloc (S : Sx P F0 H0 F H) (h : H q = none) : Sx P F0 H0 (upd F q o) (upd H q o) := by
  refine ⟨S.le.trans (S.leN h), fun a u e => ?_, fun a u e n => ?_, (S.temp h).same, (S.temp h).live⟩
  · by_cases z : a = q
    · subst z; rw [upd_same] at e ⊢; exact e
    · rw [upd_ne z] at e ⊢; exact S.sub a u e
  · by_cases z : a = q
    · subst z; exact .inl (S.free0 h)
    · rw [upd_ne z] at e; exact S.new a u e n
/-- an object of one's own is changed -/
theorem Sx.put (S : Sx P F0 H0 F H) (w : Ow P H0 F H p o) : Sx P F0 H0 F (upd H p u) := by
  refine ⟨S.le, fun a v e => ?_, S.new, fun a v e n => ?_, fun a z => ?_⟩
  · have ne : a ≠ p := fun z => by rw [z, w.fr] at e; cases e
    rw [upd_ne ne]; exact S.sub a v e
  · have ne : a ≠ p := fun z => by
      rcases w.mine with m | m
      · rw [z, m] at e; cases e
      · exact n (z ▸ m)
    rw [upd_ne ne]; exact S.same a v e n
  · by_cases e : a = p
    · subst e; rw [upd_same]; exact fun h => nomatch h
    · rw [upd_ne e]; exact S.live a z
/-- .. is let stand for good -/
theorem Sx.freezeP (S : Sx P F0 H0 F H) (w : Ow P H0 F H p o) : Sx P F0 H0 (upd F p o) H := by
  refine ⟨S.le.trans fun a u e => ?_, fun a u e => ?_, fun a u e n => ?_, S.same, S.live⟩
  · rw [upd_ne (ne_of_none e w.fr)]; exact e
  · by_cases z : a = p
    · subst z; rw [upd_same] at e; cases e; exact w.at_
    · rw [upd_ne z] at e; exact S.sub a u e
  · by_cases z : a = p
    · subst z; exact w.mine
    · rw [upd_ne z] at e; exact S.new a u e n
theorem Sx.freeze (S : Sx P F0 H0 F H) (w : Ow P H0 F H p o) (_ : H0 p = none) : Sx P F0 H0 (upd F p o) H := S.freezeP w
theorem Ow.leF (w : Ow P H0 F H p o) : Same F (upd F p o) := fun a u e => by rw [upd_ne (ne_of_none e w.fr)]; exact e
/-- behind a call that may change P' -/
theorem Sx.call (S : Sx P F0 H0 F H) (c : Sx P' F H F' H') (h : ∀ a, P' a → P a ∨ H0 a = none) : Sx P F0 H0 F' H' := by
  refine ⟨S.le.trans c.le, c.sub, fun a u e n => ?_, fun a u e n => ?_, fun a z => ?_⟩
  · cases q : F a with
    | some o => exact S.new a o q n
    | none => exact (c.new a u e q).elim (fun z => .inl (S.free0 z)) fun z => (h a z).symm
  · refine c.same a u (S.same a u e n) fun z => ?_
    rcases h a z with z | z
    · exact n z
    · rw [z] at e; cases e
  · by_cases y : P' a
    · exact c.live a y
    · have l := S.live a z
      cases e : H a with
      | none => exact absurd e l
      | some o =>
        rw [c.same a o e y]
        exact fun h => nomatch h
theorem Sx.call0 (S : Sx P F0 H0 F H) (c : Sx P0 F H F' H') : Sx P F0 H0 F' H' := S.call c fun _ z => z.elim
theorem Sx.call1 (S : Sx P F0 H0 F H) (c : Sx (fun a => a = p) F H F' H') (w : Ow P H0 F H p o) : Sx P F0 H0 F' H' := S.call c fun a z => by
  subst z
  exact w.mine.symm
theorem Ow.call (w : Ow P H0 F H p o) (c : Sx P' F H F' H') (n : ¬ P' p) : Ow P H0 F' H' p o := by
  refine ⟨?_, c.same p o w.at_ n, w.mine⟩
  cases q : F' p with
  | none => rfl
  | some u =>
    rcases c.new p u q w.fr with z | z
    · rw [w.at_] at z
      cases z
    · exact absurd z n
theorem Ow.call0 (w : Ow P H0 F H p o) (c : Sx P0 F H F' H') : Ow P H0 F' H' p o := w.call c fun z => z
theorem Ow.ne (w : Ow P H0 F H p o) (h : H q = none) : p ≠ q := ne_of_none w.at_ h
theorem Ow.temp (w : Ow P H0 F H p o) (h : H q = none) : Ow P H0 F (upd H q u) p o := ⟨w.fr, by rw [upd_ne (w.ne h)]; exact w.at_, w.mine⟩
theorem Ow.alloc (w : Ow P H0 F H p o) (h : H q = none) : Ow P H0 (upd F q u) (upd H q u) p o := ⟨by rw [upd_ne (w.ne h)]; exact w.fr, by rw [upd_ne (w.ne h)]; exact w.at_, w.mine⟩
theorem Ow.put (w : Ow P H0 F H p o) : Ow P H0 F (upd H p u) p u := ⟨w.fr, upd_same, w.mine⟩
/-- a new object of one's own -/
theorem Sx.own (S : Sx P F0 H0 F H) (h : H q = none) : Ow P H0 F (upd H q o) q o := ⟨S.free h, upd_same, .inl (S.free0 h)⟩
/-- inside a callee's eyes: an own object handed in -/
theorem Ow.arg (w : Ow P H0 F H p o) : Ow (fun a => a = p) H F H p o := ⟨w.fr, w.at_, .inr rfl⟩
theorem Ow.back {o' : HO} (w : Ow P H0 F H p o) (z : Ow (fun a => a = p) H F' H' p o') : Ow P H0 F' H' p o' := ⟨z.fr, z.at_, w.mine⟩
end
end Gl
namespace Gl
open PySem PySem.Spec PyProof.Rows L2
/-! ## tests -/
theorem if_b {β : Type} {b : Bool} {A B : Prop} {m1 m2 : Option β} {r : β} (hm : (if b = true then m1 else m2) = some r) (h1 : b = true → m1 = some r → A) (h2 : b = false → m2 = some r → B) : if b = true then A else B := by
  cases b with
  | true => exact h1 rfl hm
  | false => exact h2 rfl hm
/-- and, or: the right side is looked at alone, with whatever is wanted of it; what is known behind both is told once -/
theorem and_j {b : Bool} {u : (Bool → Hp → Prop) → Prop} {Q : Bool → Hp → Prop} {H : Hp} (J : Bool → Hp → Prop) (h1 : b = true → ∀ Q' : Bool → Hp → Prop, (∀ c H', J c H' → Q' c H') → u Q') (h2 : b = false → J false H) (k : ∀ c H', J c H' → Q c H') : if b = true then u Q else Q false H := by
  cases b with
  | true => exact h1 rfl Q k
  | false => exact k _ _ (h2 rfl)
theorem or_j {b : Bool} {u : (Bool → Hp → Prop) → Prop} {Q : Bool → Hp → Prop} {H : Hp} (J : Bool → Hp → Prop) (h1 : b = false → ∀ Q' : Bool → Hp → Prop, (∀ c H', J c H' → Q' c H') → u Q') (h2 : b = true → J true H) (k : ∀ c H', J c H' → Q c H') : if b = true then Q true H else u Q := by
  cases b with
  | true => exact k _ _ (h2 rfl)
  | false => exact h1 rfl Q k
theorem andV_j {b : Bool} {u : VK → Prop} {Q : VK} {H : Hp} (J : V → Hp → Prop) (h1 : b = true → ∀ Q' : VK, (∀ c H', J c H' → Q' c H') → u Q') (h2 : b = false → J (.bl false) H) (k : ∀ c H', J c H' → Q c H') : if b = true then u Q else Q (.bl false) H := by
  cases b with
  | true => exact h1 rfl Q k
  | false => exact k _ _ (h2 rfl)
theorem or_p {b c : Bool} {u : (Bool → Hp → Prop) → Prop} {Q : Bool → Hp → Prop} {H : Hp} (hu : b = false → ∀ Q' : Bool → Hp → Prop, Q' c H → u Q') (k : Q (b || c) H) : if b = true then Q true H else u Q := by
  cases b with
  | true => exact k
  | false => exact hu rfl Q k
theorem andV_p {b c : Bool} {u : VK → Prop} {Q : VK} {H : Hp} (hu : b = true → ∀ Q' : VK, Q' (.bl c) H → u Q') (k : Q (.bl (b && c)) H) : if b = true then u Q else Q (.bl false) H := by
  cases b with
  | true => exact hu rfl Q k
  | false => exact k
/-! ## operators on plain values -/
section
variable {X : Cx}
theorem op_eqI : OpR X (compareOp .Eq) (rI0 fun i j => .bl (decide (i = j))) := opB0 fun _ _ _ _ _ _ _ h => eq_int (by rw [Bool.beq_eq_decide_eq]; exact h)
def rS0 (g : Str → Str → V) : R2 := fun x y H Q => ∃ i j, x = .str i ∧ y = .str j ∧ Q (g i j) H
theorem dec_strV {i j : Str} : decide (V.str i = V.str j) = decide (i = j) := by
  by_cases e : i = j
  · subst e; simp
  · rw [decide_eq_false e, decide_eq_false fun z => e (V.str.inj z)]
theorem op_eqS : OpR X (compareOp .Eq) (rS0 fun i j => .bl (decide (i = j))) := by
  intro pins s σ H x y v u Q I rx ry h
  obtain ⟨i, j, rfl, rfl, q⟩ := h
  exact op_eq pins s σ H _ _ v u Q I rx ry ⟨rfl, by rw [dec_strV]; exact q⟩
end
/-- i stands in j -/
def inS (i j : Str) : Bool := !(Builtin.Str.occurrences j i 0 j.length 1).isEmpty
def mulOk (a b : Int) : Bool := (decide (-(2 ^ 64) < a) && decide (a < 2 ^ 64)) || (decide (-(2 ^ 64) < b) && decide (b < 2 ^ 64))
theorem mulOk_of {a b : Int} (h : mulOk a b = true) : CMul a b := by
  unfold mulOk at h
  simp only [Bool.or_eq_true, Bool.and_eq_true, decide_eq_true_eq] at h
  exact h
def divOk (b : Int) : Bool := decide (0 < b) && decide (b < 1073741824)
theorem divOk_of {a b : Int} (h : divOk b = true) : CDiv a b := by
  unfold divOk at h
  simp only [Bool.and_eq_true, decide_eq_true_eq] at h
  exact h
def modOk (b : Int) : Bool := decide (0 < b)
theorem modOk_of {b : Int} (h : modOk b = true) : 0 < b := of_decide_eq_true h
def powOk (a b : Int) : Bool := decide (0 ≤ b) && (decide (b ≤ 1000000) && decide (a.natAbs < 2 ^ 64))
theorem powOk_of {a b : Int} (h : powOk a b = true) : CPow a b := by
  unfold powOk at h
  simp only [Bool.and_eq_true, decide_eq_true_eq] at h
  exact h
def catOk (a b : Str) : Bool := decide (a.length + b.length ≤ sizeLine)
theorem catOk_of {a b : Str} (h : catOk a b = true) : a.length + b.length ≤ sizeLine := of_decide_eq_true h
def fits {α : Type} (a : List α) : Bool := decide (a.length < sizeLine)
def fitsS (a : Str) : Bool := decide (a.length ≤ sizeLine)
theorem fitsS_of {a : Str} (h : fitsS a = true) : a.length ≤ sizeLine := of_decide_eq_true h
def fits2 {α : Type} (a b : List α) : Bool := decide (a.length + b.length ≤ sizeLine)
def ixS (s : Str) (i : Int) : Option Str := gd (fitsS s) ((atI s.cps.toList i).bind fun c => some ⟨#[c]⟩)
theorem ixS_some {s z : Str} {i : Int} (h : ixS s i = some z) : ∃ c, s.length ≤ sizeLine ∧ atI s.cps.toList i = some c ∧ z = ⟨#[c]⟩ := by
  obtain ⟨h1, h2⟩ := gd_some h
  obtain ⟨c, h3, h4⟩ := bd_some h2
  exact ⟨c, fitsS_of h1, h3, (Option.some.inj h4).symm⟩
/-- xs[lo:hi] -/
def cut {α : Type} (xs : List α) (lo hi : Option Int) : List α := (xs.drop (HT.sIx xs.length 0 lo)).take (HT.sIx xs.length xs.length hi - HT.sIx xs.length 0 lo)
def rng (a b : Int) : List Int := (List.range (b - a).toNat).map fun i => a + (i : Nat)
def maxI (i j : Int) : Int := if j > i then j else i
def minI (i j : Int) : Int := if j < i then j else i
def b2I (b : Bool) : Int := if b then 1 else 0
/-- the sgns of a text, one by one -/
def sgns (z : Str) : List Str := z.cps.toList.map fun c => ⟨#[c]⟩

/-! ## what is seen of rows -/
section
variable {α : Type} {A : R α} {K : PySem.W.Frag} {F H F0 H0 : Hp} {P : Addr → Prop} {v : V} {xs ys : List α} {Q : VK} {i : Int} {a : α} {p : Addr} {vs : List V}
def SeenL (A : R α) (K : PySem.W.Frag) (F H : Hp) (v : V) (xs : List α) : Prop := ∃ p vs, v = .ref p ∧ H p = some (.lst vs) ∧ Row A K F vs xs
def SeenR (A : R α) (K : PySem.W.Frag) (F H : Hp) (v : V) (xs : List α) : Prop := ∃ p vs, v = .ref p ∧ SqL K H p vs ∧ Row A K F vs xs
def SeenT (A : R α) (K : PySem.W.Frag) (F H : Hp) (v : V) (xs : List α) : Prop := ∃ p vs, v = .ref p ∧ SqT K H p vs ∧ Row A K F vs xs
def SeenQ (A : R α) (K : PySem.W.Frag) (F H : Hp) (v : V) (xs : List α) : Prop := SeenR A K F H v xs ∨ SeenT A K F H v xs
theorem SeenL.r (h : SeenL A K F H v xs) : SeenR A K F H v xs := let ⟨p, vs, h1, h2, h3⟩ := h; ⟨p, vs, h1, SqL.of h2, h3⟩
theorem Sx.l (S : Sx P F0 H0 F H) (r : (qL A).r K F v xs) : SeenL A K F H v xs := let ⟨p, vs, h1, h2, h3⟩ := r; ⟨p, vs, h1, S.sub _ _ h2, h3⟩
theorem Sx.t (S : Sx P F0 H0 F H) (r : (qT A).r K F v xs) : SeenT A K F H v xs := let ⟨p, vs, h1, h2, h3⟩ := r; ⟨p, vs, h1, same_t S.sub h2, h3⟩
theorem Sx.q (S : Sx P F0 H0 F H) (r : (qQ A).r K F v xs) : SeenQ A K F H v xs := r.elim (fun r => .inl (S.l r).r) fun r => .inr (S.t r)
theorem Ow.l (w : Ow P H0 F H p (.lst vs)) (r : Row A K F vs xs) : SeenL A K F H (.ref p) xs := ⟨p, vs, rfl, w.at_, r⟩
theorem SeenL.q (h : SeenL A K F H v xs) : SeenQ A K F H v xs := .inl h.r
theorem SeenR.q (h : SeenR A K F H v xs) : SeenQ A K F H v xs := .inl h
theorem SeenT.q (h : SeenT A K F H v xs) : SeenQ A K F H v xs := .inr h
theorem SeenQ.seq (h : SeenQ A K F H v xs) : ∃ p vs, v = .ref p ∧ (SqL K H p vs ∨ SqT K H p vs) ∧ Row A K F vs xs := by
  rcases h with ⟨p, vs, rfl, h, r⟩ | ⟨p, vs, rfl, h, r⟩
  · exact ⟨p, vs, rfl, .inl h, r⟩
  · exact ⟨p, vs, rfl, .inr h, r⟩
/-- the script -/
def qC : R (List Int) := ⟨fun K F v xs => ∃ p, v = .ref p ∧ SqL K F p (xs.map V.int), fun e ⟨p, h1, h2⟩ => ⟨p, h1, Same.seq e h2⟩⟩
theorem row_ints {K : PySem.W.Frag} {F : Hp} : ∀ xs : List Int, Row qI K F (xs.map V.int) xs
  | [] => .nil
  | _ :: xs => .cons rfl (row_ints xs)
theorem Sx.c {xs : List Int} (S : Sx P F0 H0 F H) (r : qC.r K F v xs) : SeenR qI K F H v xs := let ⟨p, h1, h2⟩ := r; ⟨p, _, h1, Same.seq S.sub h2, row_ints xs⟩
theorem row_at (r : Row A K F vs xs) (h : atI xs i = some a) : ∃ u, atI vs i = some u ∧ A.r K F u a := by
  unfold atI at h ⊢
  rw [pLen r]
  obtain ⟨j, h1, h2⟩ := bd_some h
  obtain ⟨u, h3, h4⟩ := pGet r h2
  exact ⟨u, by rw [h1]; exact h3, h4⟩
theorem row_cut (r : Row A K F vs xs) (lo hi : Option Int) : Row A K F (cutV vs lo hi) (cut xs lo hi) := by
  unfold cutV cut
  rw [pLen r]
  exact pTake _ (pDrop _ r)
theorem rd_ixL (s : SeenR A K F H v xs) (h : atI xs i = some a) (k : ∀ u, A.r K F u a → Q u H) : rIxL K v (.int i) H Q := by
  obtain ⟨p, vs, rfl, h1, r⟩ := s
  obtain ⟨u, h2, h3⟩ := row_at r h
  exact ⟨p, vs, i, u, rfl, rfl, h1, h2, k u h3⟩
theorem rd_ixT (s : SeenT A K F H v xs) (h : atI xs i = some a) (k : ∀ u, A.r K F u a → Q u H) : rIxT K v (.int i) H Q := by
  obtain ⟨p, vs, rfl, h1, r⟩ := s
  obtain ⟨u, h2, h3⟩ := row_at r h
  exact ⟨p, vs, i, u, rfl, rfl, h1, h2, k u h3⟩
theorem rd_len (s : SeenQ A K F H v xs) (k : Q (.int (xs.length : Int)) H) : ∃ p ys, [v] = [V.ref p] ∧ (SqL K H p ys ∨ SqT K H p ys) ∧ Q (.int (ys.length : Int)) H := by
  obtain ⟨p, vs, rfl, h1, r⟩ := s.seq
  exact ⟨p, vs, rfl, h1, by rw [pLen r]; exact k⟩
/-- what is wanted of a new object; of a new list, tuple with such items -/
def nK (Q : VK) (H : Hp) (o : HO) : Prop := ∀ p, H p = none → Q (.ref p) (upd H p o)
def nL (A : R α) (K : PySem.W.Frag) (F : Hp) (Q : VK) (H : Hp) (xs : List α) : Prop := ∀ p us, H p = none → Row A K F us xs → Q (.ref p) (upd H p (.lst us))
def nT (A : R α) (K : PySem.W.Frag) (F : Hp) (Q : VK) (H : Hp) (xs : List α) : Prop := ∀ p us, H p = none → Row A K F us xs → Q (.ref p) (upd H p (.tup us))
theorem rd_slL {lo hi : Option Int} (s : SeenR A K F H v xs) (k : nL A K F Q H (cut xs lo hi)) : rSlL K v lo hi H Q := by
  obtain ⟨p, vs, rfl, h1, r⟩ := s
  exact ⟨p, vs, rfl, h1, fun q hq => k q _ hq (row_cut r lo hi)⟩
theorem rd_tuple (s : SeenR A K F H v xs) (k : nT A K F Q H xs) : kTup K v H Q := by
  obtain ⟨p, vs, rfl, h1, r⟩ := s
  exact .inl ⟨p, vs, rfl, h1, fun q hq => k q _ hq r⟩
theorem rd_cat (s : SeenL A K F H v xs) {w : V} (t : SeenL A K F H w ys) (h : fits2 xs ys = true) (k : nL A K F Q H (xs ++ ys)) : rCat v w H Q := by
  obtain ⟨p, vs, rfl, h1, r⟩ := s
  obtain ⟨q, us, rfl, h2, r2⟩ := t
  exact ⟨p, q, vs, us, rfl, rfl, h1, h2, by rw [pLen r, pLen r2]; exact of_decide_eq_true h, fun z hz => k z _ hz (pApp r r2)⟩
theorem rd_app (w : Ow P H0 F H p (.lst vs)) (r : Row A K F vs xs) {y : V} (h : fits xs = true) (k : Q .non (upd H p (.lst (vs ++ [y])))) : rAppend (.ref p) [y] H Q :=
  ⟨p, vs, y, rfl, rfl, w.at_, by rw [pLen r]; exact of_decide_eq_true h, k⟩
theorem rd_extend (w : Ow P H0 F H p (.lst vs)) (r : Row A K F vs xs) {b : V} {ys : List α} (s : SeenL A K F H b ys) (h : fits2 xs ys = true) (k : ∀ us, Row A K F us ys → Q .non (upd H p (.lst (vs ++ us)))) : rExtend (.ref p) [b] H Q := by
  obtain ⟨q, us, rfl, h2, r2⟩ := s
  exact ⟨p, q, vs, us, rfl, rfl, w.at_, h2, by rw [pLen r, pLen r2]; exact of_decide_eq_true h, k us r2⟩
theorem Ow.ty (w : Ow P H0 F H p (.lst vs)) : tyV K "list" (.ref p) H := .inl ⟨rfl, vs, SqL.of w.at_⟩
end
/-! ### in -/
theorem inV_str {K : PySem.W.Frag} {F : Hp} {a : Str} : ∀ {vs : List V} {xs : List Str}, Row qS K F vs xs → inV (.str a) vs = decide (a ∈ xs) ∧ vs.all flatV = true
  | _, _, .nil => ⟨rfl, rfl⟩
  | v :: vs, x :: xs, .cons r t => by
    obtain ⟨h1, h2⟩ := inV_str (a := a) t
    cases (show v = .str x from r)
    refine ⟨?_, ?_⟩
    · show (eqV (.str x) (.str a) || inV (.str a) vs) = _
      rw [h1]
      show ((x == a) || decide (a ∈ xs)) = decide (a ∈ x :: xs)
      by_cases e : a = x
      · subst e; simp
      · have e2 : (x == a) = false := beq_eq_false_iff_ne.mpr (Ne.symm e)
        rw [e2]; simp [e]
    · show (flatV (.str x) && vs.all flatV) = true
      rw [h2]; rfl
section
variable {K : PySem.W.Frag} {F H : Hp} {v : V} {Q : VK}
theorem rd_inS {xs : List Str} {a : Str} (s : SeenQ qS K F H v xs) (k : Q (.bl (decide (a ∈ xs))) H) : rIn K false (.str a) v H Q := by
  obtain ⟨p, vs, rfl, h1, r⟩ := s.seq
  obtain ⟨e1, e2⟩ := inV_str (a := a) r
  exact ⟨p, vs, rfl, h1, rfl, e2, by show Q (.bl (inV (.str a) vs)) H; rw [e1]; exact k⟩
theorem rd_niS {xs : List Str} {a : Str} (s : SeenQ qS K F H v xs) (k : Q (.bl (!decide (a ∈ xs))) H) : rIn K true (.str a) v H Q := by
  obtain ⟨p, vs, rfl, h1, r⟩ := s.seq
  obtain ⟨e1, e2⟩ := inV_str (a := a) r
  exact ⟨p, vs, rfl, h1, rfl, e2, by show Q (.bl (!inV (.str a) vs)) H; rw [e1]; exact k⟩
end
/-! ### == of data -/
/-- what stands for Lean's in the library's data -/
structure Dat {α : Type} (A : R α) where
  d : α → PyData
  dp : ∀ {K : PySem.W.Frag} {F : Hp} {v : V} {a : α}, A.r K F v a → Dp K F v (d a)
  eq : ∀ a b : α, PyData.eqv (d a) (d b) = true ↔ a = b
mutual
theorem Dp.mono {K : PySem.W.Frag} {F F' : Hp} (e : Same F F') : ∀ {v : V} {d : PyData}, Dp K F v d → Dp K F' v d
  | _, _, .non => .non
  | _, _, .bl b => .bl b
  | _, _, .int i => .int i
  | _, _, .str x => .str x
  | _, _, .lst h a => .lst (Same.seq e h) (DpAll.mono e a)
  | _, _, .tup h a => .tup (same_t e h) (DpAll.mono e a)
theorem DpAll.mono {K : PySem.W.Frag} {F F' : Hp} (e : Same F F') : ∀ {vs : List V} {ds : List PyData}, DpAll K F vs ds → DpAll K F' vs ds
  | _, _, .nil => .nil
  | _, _, .cons h a => .cons (Dp.mono e h) (DpAll.mono e a)
end
def dI : Dat qI := ⟨.int, fun {K F v a} h => by cases (show v = .int a from h); exact .int a, fun a b => by simp [PyData.eqv]⟩
def dB : Dat qB := ⟨.bool, fun {K F v a} h => by cases (show v = .bl a from h); exact .bl a, fun a b => by simp [PyData.eqv]⟩
def dS : Dat qS := ⟨.str, fun {K F v a} h => by cases (show v = .str a from h); exact .str a, fun a b => by simp [PyData.eqv]⟩
theorem dpAll {α : Type} {A : R α} (D : Dat A) {K : PySem.W.Frag} {F : Hp} : ∀ {vs : List V} {xs : List α}, Row A K F vs xs → DpAll K F vs (xs.map D.d)
  | _, _, .nil => .nil
  | _, _, .cons r t => .cons (D.dp r) (dpAll D t)
theorem eqvAll_iff {α : Type} {A : R α} (D : Dat A) : ∀ xs ys : List α, PyData.eqvAll (xs.map D.d) (ys.map D.d) = true ↔ xs = ys
  | [], [] => by simp [PyData.eqvAll]
  | [], _ :: _ => by simp [PyData.eqvAll]
  | _ :: _, [] => by simp [PyData.eqvAll]
  | x :: xs, y :: ys => by
    show (PyData.eqv (D.d x) (D.d y) && PyData.eqvAll (xs.map D.d) (ys.map D.d)) = true ↔ _
    rw [Bool.and_eq_true, D.eq x y, eqvAll_iff D xs ys]
    simp
def dL {α : Type} {A : R α} (D : Dat A) : Dat (qL A) := ⟨fun xs => .list (xs.map D.d), fun {K F v a} h => by
    obtain ⟨p, vs, rfl, h2, h3⟩ := h
    exact .lst (SqL.of h2) (dpAll D h3), fun a b => eqvAll_iff D a b⟩
def dT {α : Type} {A : R α} (D : Dat A) : Dat (qT A) := ⟨fun xs => .tuple (xs.map D.d), fun {K F v a} h => by
    obtain ⟨p, vs, rfl, h2, h3⟩ := h
    exact .tup h2 (dpAll D h3), fun a b => eqvAll_iff D a b⟩
def d2 {α β : Type} {A : R α} {B : R β} (D : Dat A) (E : Dat B) : Dat (q2 A B) := ⟨fun x => .tuple [D.d x.1, E.d x.2], fun {K F v a} h => by
    obtain ⟨p, u, w, rfl, h2, h3, h4⟩ := h
    exact .tup h2 (.cons (D.dp h3) (.cons (E.dp h4) .nil)), fun a b => by
    show (PyData.eqv (D.d a.1) (D.d b.1) && (PyData.eqv (E.d a.2) (E.d b.2) && true)) = true ↔ _
    rw [Bool.and_eq_true, Bool.and_eq_true, D.eq, E.eq]
    obtain ⟨a1, a2⟩ := a
    obtain ⟨b1, b2⟩ := b
    simp⟩
def shp {α : Type} {A : R α} (D : Dat A) (a : α) : Bool := SeqAt.shaped (D.d a)
section
variable {α : Type} {A : R α} {K : PySem.W.Frag} {F H F0 H0 : Hp} {P : Addr → Prop} {v w : V} {a b : α} {Q : VK} [DecidableEq α]
theorem SeenR.dp {α : Type} {A : R α} {K : PySem.W.Frag} {F H : Hp} {v : V} {xs : List α} (S : Same F H) (D : Dat A) (h : SeenR A K F H v xs) : Dp K H v (.list (xs.map D.d)) := let ⟨p, vs, h1, h2, h3⟩ := h; by subst h1; exact .lst h2 (dpAll D (Row.mono S h3))
theorem eqv_dec (D : Dat A) (a b : α) : PyData.eqv (D.d a) (D.d b) = decide (a = b) := by
  by_cases e : a = b
  · rw [(D.eq a b).mpr e, decide_eq_true e]
  · rw [decide_eq_false e]
    cases h : PyData.eqv (D.d a) (D.d b) with
    | false => rfl
    | true => exact absurd ((D.eq a b).mp h) e
/-- what is seen of a datum -/
def SeenD (D : Dat A) (K : PySem.W.Frag) (H : Hp) (v : V) (a : α) : Prop := Dp K H v (D.d a)
theorem Sx.d (S : Sx P F0 H0 F H) (D : Dat A) (r : A.r K F v a) : SeenD D K H v a := Dp.mono S.sub (D.dp r)
theorem rd_eqD {D : Dat A} (s : SeenD D K H v a) (t : SeenD D K H w b) (h1 : shp D a = true) (h2 : shp D b = true) (k : Q (.bl (decide (a = b))) H) : rEqD K v w H Q :=
  ⟨_, _, s, t, h1, h2, by rw [eqv_dec]; exact k⟩
theorem rd_neD {D : Dat A} (s : SeenD D K H v a) (t : SeenD D K H w b) (h1 : shp D a = true) (h2 : shp D b = true) (k : Q (.bl (!decide (a = b))) H) : rNeD K v w H Q :=
  ⟨_, _, s, t, h1, h2, by rw [eqv_dec]; exact k⟩
end
section
variable {α : Type} {A : R α} {K : PySem.W.Frag} {F H F0 H0 : Hp} {P : Addr → Prop} {p : Addr} {vs : List V} {xs : List α}
theorem Sx.cd {v : V} {xs : List Int} (S : Sx P F0 H0 F H) (r : qC.r K F v xs) : SeenD (dL dI) K H v xs := SeenR.dp S.sub dI (S.c r)
theorem Ow.d (w : Ow P H0 F H p (.lst vs)) (S : Sx P F0 H0 F H) (D : Dat A) (r : Row A K F vs xs) : SeenD (dL D) K H (.ref p) xs := .lst (SqL.of w.at_) (dpAll D (Row.mono S.sub r))
end
end Gl
namespace Gl
open PySem PySem.Spec PyProof.Rows L2
/-! ## loops -/
def loopS {α S : Type} (f : α → S → Option S) : List α → S → Option S
  | [], s => some s
  | x :: xs, s => (f x s).bind fun s' => loopS f xs s'
def loopC {α S ρ : Type} (f : α → S → Option (Ctl S ρ)) : List α → S → Option (Ctl S ρ)
  | [], s => some (.nx s)
  | x :: xs, s => (f x s).bind fun c => match c with
    | .nx s' => loopC f xs s'
    | .bk s' => some (.nx s')
    | .rt r => some (.rt r)
/-- behind a loop that may return -/
def aft {S ρ : Type} (c : Ctl S ρ) (k : S → Option ρ) : Option ρ := match c with
  | .nx s => k s
  | .bk s => k s
  | .rt r => some r
/-- what an iterator hands out, one behind another -/
structure Feeds (J : It) (n : Nat) (G : Hp → Prop) (it : Nat → V → Prop) : Prop where
  go : ∀ i H, i < n → G H → J.go i H
  stop : ∀ H, G H → J.stop n H
  yld : ∀ i H x H', i < n → G H → J.yld i H x H' → H' = H ∧ it i x
theorem feedsS {z : Str} : Feeds (Its z) z.cps.size (fun _ => True) (fun i x => ∃ c, z.cps[i]? = some c ∧ x = .str ⟨#[c]⟩) :=
  ⟨fun i H h _ => h, fun H _ => Nat.le_refl _, fun i H x H' h _ y => y⟩
/-- the items are typed -/
structure Typed {α : Type} (A : R α) (K : PySem.W.Frag) (F : Hp) (n : Nat) (it : Nat → V → Prop) (xs : List α) : Prop where
  len : xs.length = n
  at_ : ∀ i x, it i x → ∃ a, xs[i]? = some a ∧ A.r K F x a
theorem typedR {K : PySem.W.Frag} {F : Hp} {a b : Int} : Typed qI K F (b - a).toNat (fun i x => i < (b - a).toNat ∧ x = .int (a + (i : Nat))) (rng a b) :=
  ⟨by unfold rng; simp, fun i x h => ⟨a + (i : Nat), by unfold rng; simp [h.1], h.2⟩⟩
theorem feedsRg {a b : Int} : Feeds (Itr a (b - a).toNat) (b - a).toNat (fun _ => True) (fun i x => i < (b - a).toNat ∧ x = .int (a + (i : Nat))) :=
  ⟨fun i H h _ => h, fun H _ => Nat.le_refl _, fun i H x H' h _ y => ⟨y.1, h, y.2⟩⟩
theorem typedS {K : PySem.W.Frag} {F : Hp} {z : Str} : Typed qS K F z.cps.size (fun i x => ∃ c, z.cps[i]? = some c ∧ x = .str ⟨#[c]⟩) (sgns z) :=
  ⟨by unfold sgns; simp, fun i x h => by
    obtain ⟨c, h1, h2⟩ := h
    exact ⟨⟨#[c]⟩, by unfold sgns; simp [h1], h2⟩⟩

abbrev ForG (J : It) (g : TG) (tb : TS) (D : Ends) (σ : L2.St) (H : Hp) : Prop :=
  ∃ W : Nat → Nat → L2.St → Hp → Prop, (∃ m, W 0 m σ H) ∧ ∀ i m σ H, W i m σ H →
    (J.stop i H ∧ D.nx σ H) ∨ (J.go i H ∧ ∃ N : L2.St → Hp → Prop, (∀ σ' H', N σ' H' → ∃ m', m' < m ∧ W (i + 1) m' σ' H') ∧ ∀ x H', J.yld i H x H' → g x σ H' fun σ2 H2 => tb { D with nx := N, ct := N, bk := D.nx } σ2 H2)
section
variable {J : It} {n : Nat} {G : Hp → Prop} {it : Nat → V → Prop} {α S ρ : Type} {A : R α} {K : PySem.W.Frag} {F : Hp} {xs : List α} {g : TG} {tb : TS} {σ : L2.St} {H : Hp} {Nx Bx Cx : L2.St → Hp → Prop} {Rx : VK}
theorem loopS_at {f : α → S → Option S} {i : Nat} {a : α} {s s1 : S} (h : loopS f (xs.drop i) s = some s1) (ha : xs[i]? = some a) : ∃ s', f a s = some s' ∧ loopS f (xs.drop (i + 1)) s' = some s1 := by
  have hi : i < xs.length := (List.getElem?_eq_some_iff.mp ha).1
  have e : xs.drop i = a :: xs.drop (i + 1) := by
    rw [List.drop_eq_getElem_cons hi]
    rw [(List.getElem?_eq_some_iff.mp ha).2]
  rw [e] at h
  exact bd_some h
theorem loopC_at {f : α → S → Option (Ctl S ρ)} {i : Nat} {a : α} {s : S} {c1 : Ctl S ρ} (h : loopC f (xs.drop i) s = some c1) (ha : xs[i]? = some a) : ∃ c, f a s = some c ∧ (match c with
    | .nx s' => loopC f (xs.drop (i + 1)) s'
    | .bk s' => some (.nx s')
    | .rt r => some (.rt r)) = some c1 := by
  have hi : i < xs.length := (List.getElem?_eq_some_iff.mp ha).1
  have e : xs.drop i = a :: xs.drop (i + 1) := by
    rw [List.drop_eq_getElem_cons hi]
    rw [(List.getElem?_eq_some_iff.mp ha).2]
  rw [e] at h
  exact bd_some h
/-- a loop that goes to its end -/
theorem rd_forS (Fd : Feeds J n G it) (Ty : Typed A K F n it xs) {f : α → S → Option S} {s0 s1 : S} (hm : loopS f xs s0 = some s1) (Iv : S → L2.St → Hp → Prop) (hG : ∀ s σ H, Iv s σ H → G H) (h0 : Iv s0 σ H)
    (turn : ∀ (a : α) (x : V) (s s' : S) (σ : L2.St) (H : Hp), A.r K F x a → Iv s σ H → f a s = some s' → g x σ H fun σ2 H2 => tb ⟨Iv s', Rx, Nx, Iv s'⟩ σ2 H2)
    (done : ∀ σ H, Iv s1 σ H → Nx σ H) : ForG J g tb ⟨Nx, Rx, Bx, Cx⟩ σ H := by
  refine ⟨fun i m σ H => m = n - i ∧ i ≤ n ∧ ∃ s, Iv s σ H ∧ loopS f (xs.drop i) s = some s1, ⟨n, by simp, Nat.zero_le _, s0, h0, hm⟩, ?_⟩
  rintro i m σ H ⟨rfl, hi, s, iv, hl⟩
  by_cases hlt : i < n
  · obtain ⟨a, ha⟩ : ∃ a, xs[i]? = some a := ⟨xs[i]'(by rw [Ty.len]; exact hlt), by simp [Ty.len, hlt]⟩
    obtain ⟨s', e1, e2⟩ := loopS_at hl ha
    refine .inr ⟨Fd.go i H hlt (hG s σ H iv), Iv s', fun σ' H' p' => ⟨n - (i + 1), by omega, rfl, hlt, s', p', e2⟩, fun x H' y => ?_⟩
    obtain ⟨rfl, hx⟩ := Fd.yld i H x H' hlt (hG s σ H iv) y
    obtain ⟨a', ha', r⟩ := Ty.at_ i x hx
    rw [ha] at ha'
    cases ha'
    exact turn a x s s' σ H' r iv e1
  · have e : i = n := by omega
    subst e
    rw [← Ty.len, List.drop_length] at hl
    cases hl
    exact .inl ⟨Fd.stop H (hG _ σ H iv), done σ H iv⟩
/-- a loop that may break off or return -/
theorem rd_forC (Fd : Feeds J n G it) (Ty : Typed A K F n it xs) {f : α → S → Option (Ctl S ρ)} {s0 : S} {c1 : Ctl S ρ} (hm : loopC f xs s0 = some c1) (Iv : S → L2.St → Hp → Prop) (hG : ∀ s σ H, Iv s σ H → G H) (h0 : Iv s0 σ H)
    (turn : ∀ (a : α) (x : V) (s : S) (c : Ctl S ρ) (σ : L2.St) (H : Hp), A.r K F x a → Iv s σ H → f a s = some c → (∀ s' σ' H', c = .bk s' → Iv s' σ' H' → Nx σ' H') → (∀ r, c = .rt r → c1 = .rt r) →
      g x σ H fun σ2 H2 => tb ⟨fun σ' H' => ∃ s', c = .nx s' ∧ Iv s' σ' H', Rx, Nx, fun σ' H' => ∃ s', c = .nx s' ∧ Iv s' σ' H'⟩ σ2 H2)
    (done : ∀ s σ H, c1 = .nx s → Iv s σ H → Nx σ H) : ForG J g tb ⟨Nx, Rx, Bx, Cx⟩ σ H := by
  refine ⟨fun i m σ H => m = n - i ∧ i ≤ n ∧ ∃ s, Iv s σ H ∧ loopC f (xs.drop i) s = some c1, ⟨n, by simp, Nat.zero_le _, s0, h0, hm⟩, ?_⟩
  rintro i m σ H ⟨rfl, hi, s, iv, hl⟩
  by_cases hlt : i < n
  · obtain ⟨a, ha⟩ : ∃ a, xs[i]? = some a := ⟨xs[i]'(by rw [Ty.len]; exact hlt), by simp [Ty.len, hlt]⟩
    obtain ⟨c, e1, e2⟩ := loopC_at hl ha
    refine .inr ⟨Fd.go i H hlt (hG s σ H iv), fun σ' H' => ∃ s', c = .nx s' ∧ Iv s' σ' H', fun σ' H' p' => ?_, fun x H' y => ?_⟩
    · obtain ⟨s', rfl, p'⟩ := p'
      exact ⟨n - (i + 1), by omega, rfl, hlt, s', p', e2⟩
    · obtain ⟨rfl, hx⟩ := Fd.yld i H x H' hlt (hG s σ H iv) y
      obtain ⟨a', ha', r⟩ := Ty.at_ i x hx
      rw [ha] at ha'
      cases ha'
      refine turn a x s c σ H' r iv e1 (fun s' σ' H' e p => ?_) fun r e => ?_
      · subst e
        exact done s' σ' H' (Option.some.inj e2).symm p
      · subst e
        exact (Option.some.inj e2).symm
  · have e : i = n := by omega
    subst e
    rw [← Ty.len, List.drop_length] at hl
    exact .inl ⟨Fd.stop H (hG _ σ H iv), done s σ H (Option.some.inj hl).symm iv⟩
end
/-! ## comprehensions -/
def fitsE {α : Type} (a : List α) : Bool := decide (a.length ≤ sizeLine)
/-- f: an item's value, if it is kept, and the state behind it -/
def comp {α β S : Type} (f : α → S → Option (Option β × S)) : List α → S → Option (List β × S)
  | [], s => some ([], s)
  | x :: xs, s => (f x s).bind fun o => (comp f xs o.2).bind fun r => some (match o.1 with
    | some y => (y :: r.1, r.2)
    | none => r)
/-- what a comprehension's loop asks -/
abbrev LcG (J : It) (g : TG) (tt : TT) (te : TE) (vs : List Nat) (σ : L2.St) (D : Addr) (Q : VK) (H1 : Hp) : Prop :=
  ∃ W : Nat → Nat → Hp → Prop, (∃ m, W 0 m (upd H1 D (.lst []))) ∧ ∀ i m H, W i m H →
  (J.stop i H ∧ Q (.ref D) H) ∨ (J.go i H ∧ ∃ Nx : Hp → Prop, (∀ H', Nx H' → ∃ m', m' < m ∧ W (i + 1) m' H') ∧ ∀ x H', J.yld i H x H' → g x (wipe σ vs) H' fun σ2 H2 => wipe σ2 vs = wipe σ vs ∧ tt σ2 H2 fun b H3 =>
    if b = true then te σ2 H3 fun y H4 => ∃ acc, H4 D = some (.lst acc) ∧ acc.length < sizeLine ∧ Nx (upd H4 D (.lst (acc ++ [y]))) else Nx H3)
section
variable {J : It} {n : Nat} {G : Hp → Prop} {it : Nat → V → Prop} {α β S : Type} {A : R α} {B : R β} {K : PySem.W.Frag} {F1 H1 : Hp} {xs : List α} {g : TG} {tt : TT} {te : TE} {vs : List Nat} {σ : L2.St} {Q : VK}
theorem comp_at {f : α → S → Option (Option β × S)} {i : Nat} {a : α} {s : S} {r : List β × S} (h : comp f (xs.drop i) s = some r) (ha : xs[i]? = some a) : ∃ o r', f a s = some o ∧ comp f (xs.drop (i + 1)) o.2 = some r' ∧ r = (match o.1 with
    | some y => (y :: r'.1, r'.2)
    | none => r') := by
  have hi : i < xs.length := (List.getElem?_eq_some_iff.mp ha).1
  have e : xs.drop i = a :: xs.drop (i + 1) := by
    rw [List.drop_eq_getElem_cons hi]
    rw [(List.getElem?_eq_some_iff.mp ha).2]
  rw [e] at h
  obtain ⟨o, e1, h2⟩ := bd_some h
  obtain ⟨r', e2, h3⟩ := bd_some h2
  exact ⟨o, r', e1, e2, (Option.some.inj h3).symm⟩
/-- c: the step from the comprehension's start (F1, H1); Ex: what holds of the objects that it changes (Pc) -/
theorem rd_comp (Fd : Feeds J n G it) (Ty : Typed A K F1 n it xs) {f : α → S → Option (Option β × S)} {s0 : S} {r : List β × S} (hm : comp f xs s0 = some r) (hz : fitsE xs = true) {Pc : Addr → Prop} (hlv : ∀ a, Pc a → H1 a ≠ none) (hsub : Same F1 H1) (Ex : S → Hp → Hp → Prop)
    (hG : ∀ s F H, Sx Pc F1 H1 F H → Ex s F H → G H) (h0 : Ex s0 F1 H1) (hEx : ∀ s F H q o, Ex s F H → H1 q = none → H q = none → Ex s F (upd H q o)) (hEp : ∀ s F H q u o, Ex s F H → H1 q = none → H q = some u → Ex s F (upd H q o))
    (turn : ∀ (a : α) (x : V) (s : S) (o : Option β × S) (F H : Hp) (D : Addr) (acc : List V), A.r K F1 x a → Sx Pc F1 H1 F H → Ex s F H → Ow Pc H1 F H D (.lst acc) → H1 D = none → f a s = some o →
      ∀ (E : Hp → Prop) (N : V → Hp → Prop), (∀ y b F' H', o.1 = some b → Sx Pc F H F' H' → B.r K F' y b → Ex o.2 F' H' → N y H') → (∀ F' H', o.1 = none → Sx Pc F H F' H' → Ex o.2 F' H' → E H') →
      g x (wipe σ vs) H fun σ2 H2 => wipe σ2 vs = wipe σ vs ∧ tt σ2 H2 fun b H3 => if b = true then te σ2 H3 N else E H3)
    (done : ∀ D us F H, H1 D = none → Sx Pc F1 H1 F H → Ex r.2 F H → Ow Pc H1 F H D (.lst us) → Row B K F us r.1 → Q (.ref D) H) : ∀ D, H1 D = none → LcG J g tt te vs σ D Q H1 := by
  intro D hD
  refine ⟨fun i m H => m = n - i ∧ i ≤ n ∧ ∃ s F acc ys r', Sx Pc F1 H1 F H ∧ Ex s F H ∧ Ow Pc H1 F H D (.lst acc) ∧ Row B K F acc ys ∧ acc.length ≤ i ∧ comp f (xs.drop i) s = some r' ∧ r = (ys ++ r'.1, r'.2), ⟨n, by simp, Nat.zero_le _, s0, F1, [], [], r, ?_, ?_, ?_, .nil, Nat.le_refl _, hm, rfl⟩, ?_⟩
  · exact (Sx.refl hsub hlv).temp hD
  · exact hEx _ _ _ _ _ h0 hD hD
  · exact (Sx.refl hsub hlv).own hD
  rintro i m H ⟨rfl, hi, s, F, acc, ys, r', S, ex, w, row, hal, hl, hr⟩
  by_cases hlt : i < n
  · obtain ⟨a, ha⟩ : ∃ a, xs[i]? = some a := ⟨xs[i]'(by rw [Ty.len]; exact hlt), by simp [Ty.len, hlt]⟩
    obtain ⟨o, r2, e1, e2, e3⟩ := comp_at hl ha
    refine .inr ⟨Fd.go i H hlt (hG s F H S ex), fun H' => ∃ s F acc ys r', Sx Pc F1 H1 F H' ∧ Ex s F H' ∧ Ow Pc H1 F H' D (.lst acc) ∧ Row B K F acc ys ∧ acc.length ≤ i + 1 ∧ comp f (xs.drop (i + 1)) s = some r' ∧ r = (ys ++ r'.1, r'.2), fun H' p' => ⟨n - (i + 1), by omega, rfl, hlt, p'⟩, fun x H' y => ?_⟩
    obtain ⟨rfl, hx⟩ := Fd.yld i H x H' hlt (hG s F H S ex) y
    obtain ⟨a', ha', ra⟩ := Ty.at_ i x hx
    rw [ha] at ha'
    cases ha'
    have nD : ∀ F' H'', Sx Pc F H' F' H'' → Ow Pc H1 F' H'' D (.lst acc) := fun F' H'' c => w.call c fun z => hlv D z hD
    have hsz : acc.length < sizeLine := by
      have := of_decide_eq_true hz
      rw [Ty.len] at this
      omega
    refine turn a x s o F H' D acc ra S ex w hD e1 _ _ (fun y b F' H'' ho c rb ex' => ?_) fun F' H'' ho c ex' => ?_
    · have w' := nD F' H'' c
      have S' : Sx Pc F1 H1 F' H'' := S.call c fun a z => .inl z
      refine ⟨acc, w'.at_, hsz, o.2, F', acc ++ [y], ys ++ [b], r2, S'.put w', hEp _ _ _ _ _ _ ex' hD w'.at_, w'.put, (Row.mono c.le row).snoc rb, by simp; omega, e2, ?_⟩
      rw [hr, e3, ho]
      simp
    · have w' := nD F' H'' c
      have S' : Sx Pc F1 H1 F' H'' := S.call c fun a z => .inl z
      refine ⟨o.2, F', acc, ys, r2, S', ex', w', Row.mono c.le row, by omega, e2, ?_⟩
      rw [hr, e3, ho]
  · have e : i = n := by omega
    subst e
    rw [← Ty.len, List.drop_length] at hl
    cases hl
    refine .inl ⟨Fd.stop H (hG _ F H S ex), ?_⟩
    rw [hr] at done
    exact done D acc F H hD S ex w (by simpa using row)
end
/-! ## steps: what is new behind each is told by names -/
section
variable {P : Addr → Prop} {F0 H0 F H : Hp} {Q : VK} {α : Type} {A : R α} {K : PySem.W.Frag}
/-- a new object, of one's own -/
theorem al {o : HO} (S : Sx P F0 H0 F H) (k : ∀ p H', H p = none → Sx P0 F H F H' → Ow P H0 F H' p o → Q (.ref p) H') : nK Q H o :=
  fun p hp => k p _ hp ((Sx.refl0 S.sub).temp hp) (S.own hp)
/-- a new object that stands for good -/
theorem alF {o : HO} (S : Sx P F0 H0 F H) (k : ∀ p F' H', Sx P0 F H F' H' → F' p = some o → Q (.ref p) H') : nK Q H o :=
  fun p hp => k p _ _ ((Sx.refl0 S.sub).alloc hp) upd_same
theorem alT {vs : List V} {xs : List α} (S : Sx P F0 H0 F H) (r : Row A K F vs xs) (k : ∀ v F' H', Sx P0 F H F' H' → (qT A).r K F' v xs → Q v H') : nK Q H (.tup vs) :=
  alF S fun p F' H' c h => k _ F' H' c ⟨p, vs, rfl, .inl (.inl h), Row.mono c.le r⟩
theorem alL {vs : List V} {xs : List α} (S : Sx P F0 H0 F H) (r : Row A K F vs xs) (k : ∀ v F' H', Sx P0 F H F' H' → (qL A).r K F' v xs → Q v H') : nK Q H (.lst vs) :=
  alF S fun p F' H' c h => k _ F' H' c ⟨p, vs, rfl, h, Row.mono c.le r⟩
/-- the same where the row is handed on -/
theorem alL' {xs : List α} (S : Sx P F0 H0 F H) (k : ∀ v F' H', Sx P0 F H F' H' → (qL A).r K F' v xs → Q v H') : nL A K F Q H xs :=
  fun p us hp r => alL S r k p hp
theorem alT' {xs : List α} (S : Sx P F0 H0 F H) (k : ∀ v F' H', Sx P0 F H F' H' → (qT A).r K F' v xs → Q v H') : nT A K F Q H xs :=
  fun p us hp r => alT S r k p hp
variable {p : Addr} {vs : List V} {xs : List α}
theorem ap (S : Sx P F0 H0 F H) (w : Ow P H0 F H p (.lst vs)) (r : Row A K F vs xs) {y : V} (h : fits xs = true) (k : ∀ H', Sx (fun a => a = p) F H F H' → Ow P H0 F H' p (.lst (vs ++ [y])) → Q .non H') : rAppend (.ref p) [y] H Q :=
  rd_app w r h (k _ ((Sx.refl S.sub fun a z => by rw [z, w.at_]; exact fun h => nomatch h).put w.arg) w.put)
theorem ex' (S : Sx P F0 H0 F H) (w : Ow P H0 F H p (.lst vs)) (r : Row A K F vs xs) {b : V} {ys : List α} (s : SeenL A K F H b ys) (h : fits2 xs ys = true) (k : ∀ us H', Sx (fun a => a = p) F H F H' → Ow P H0 F H' p (.lst (vs ++ us)) → Row A K F (vs ++ us) (xs ++ ys) → Q .non H') : rExtend (.ref p) [b] H Q :=
  rd_extend w r s h fun us r2 => k us _ ((Sx.refl S.sub fun a z => by rw [z, w.at_]; exact fun h => nomatch h).put w.arg) w.put (pApp r r2)
/-- an own list is let stand for good -/
theorem fz (S : Sx P F0 H0 F H) (w : Ow P H0 F H p (.lst vs)) (h0 : H0 p = none) (r : Row A K F vs xs) : ∃ F', Sx P F0 H0 F' H ∧ Same F F' ∧ (qL A).r K F' (.ref p) xs ∧ F' p ≠ none ∧ ∀ q, q ≠ p → F' q = F q :=
  ⟨upd F p (.lst vs), S.freeze w h0, w.leF, ⟨p, vs, rfl, upd_same, Row.mono w.leF r⟩, by (rw [upd_same]; exact (fun h => nomatch h)), fun q hq => upd_ne hq⟩
theorem Ow.fzO {F' : Hp} {o : HO} {q : Addr} (w : Ow P H0 F H q o) (n : q ≠ p) (e : ∀ q, q ≠ p → F' q = F q) : Ow P H0 F' H q o := ⟨by rw [e q n]; exact w.fr, w.at_, w.mine⟩
end
end Gl
namespace Gl
open PySem PySem.Spec PyProof.Rows L2
/-! ## defs by names -/
def fdDefault : FuncData := PySem.W.fnOf "" "" { posonlyargs := [], args := [], vararg := none, kwonlyargs := [], kw_defaults := [], kwarg := none, defaults := [] } [] { kind := .function, names := [], isGenerator := false, isCoroutine := false } .none .none .none .none none .none .none
def fdOf (K : PySem.W.Frag) (p : Str × Option Str) : FuncData := match K.lookup (He.fAd K p) with
  | some ⟨_, _, .func fd, _⟩ => fd
  | _ => fdDefault
abbrev FnD' (K : PySem.W.Frag) (p : Str × Option Str) (x q : Str) (st : Stmt) : Prop := FunD K x q (defArgs st) (defBody st) (defScope st) [] [] (He.fAd K p) (fdOf K p)
theorem fdOf_eq {K : PySem.W.Frag} {p : Str × Option Str} {x q : Str} {ps : Arguments} {body : List Stmt} {sc : Scope} {dvs : List V} {kws : List (Str × V)} {fd : FuncData} (F : FunD K x q ps body sc dvs kws (He.fAd K p) fd) : fd = fdOf K p := by
  obtain ⟨oc, od, dV, kV, doc, pm, an, cdv, ct, osl, e, lk, _⟩ := F.ex
  unfold fdOf
  rw [lk]
theorem fd_of {fa : List He.Fa} {fn : List He.DefD} {K : PySem.W.Frag} (c : He.SaysD fa fn K) (i : Nat) {d : He.DefD} (h : fn[i]? = some d := by rfl) : FunD K d.name d.qual d.params d.body d.scope (d.dvs K) (d.kws K) (He.fAd K d.at_) (fdOf K d.at_) := by
  obtain ⟨fd, F⟩ := c.def_ i h
  have e := fdOf_eq F
  subst e
  exact F
/-! ## a list of two ints that is drawn from -/
section
variable {P : Addr → Prop} {F0 H0 F H : Hp} {Q : VK} {K : PySem.W.Frag} {p : Addr} {a b c : V}
theorem pool0 (w : Ow P H0 F H p (.lst [a, b])) (k : Q a H) : rIxL K (.ref p) (.int 0) H Q := ⟨p, [a, b], 0, a, rfl, rfl, SqL.of w.at_, rfl, k⟩
theorem pool1 (w : Ow P H0 F H p (.lst [a, b])) (k : Q b H) : rIxL K (.ref p) (.int 1) H Q := ⟨p, [a, b], 1, b, rfl, rfl, SqL.of w.at_, rfl, k⟩
theorem putS (S : Sx P F0 H0 F H) {o u : HO} (w : Ow P H0 F H p o) : Sx (fun a => a = p) F H F (upd H p u) := (Sx.refl S.sub fun a z => by rw [z, w.at_]; exact fun h => nomatch h).put w.arg
theorem pset0 {R : Hp → Prop} (S : Sx P F0 H0 F H) (w : Ow P H0 F H p (.lst [a, b])) (k : ∀ H', Sx (fun a => a = p) F H F H' → Ow P H0 F H' p (.lst [c, b]) → R H') : rSetL (.ref p) (.int 0) c H R := ⟨p, [a, b], 0, 0, rfl, rfl, w.at_, rfl, k _ (putS S w) w.put⟩
theorem pset1 {R : Hp → Prop} (S : Sx P F0 H0 F H) (w : Ow P H0 F H p (.lst [a, b])) (k : ∀ H', Sx (fun a => a = p) F H F H' → Ow P H0 F H' p (.lst [a, c]) → R H') : rSetL (.ref p) (.int 1) c H R := ⟨p, [a, b], 1, 1, rfl, rfl, w.at_, rfl, k _ (putS S w) w.put⟩
end
end Gl
namespace Gl
open PySem PySem.Spec PyProof.Rows L2
/-! ## readings, construct by construct -/
section
variable {σ : L2.St} {H : Hp} {Q : VK} {v : V} {i j : Int} {ta tb tc te : TE} {t u : TT} {r : R2} {D : Ends} {tr : TA} {K : PySem.W.Frag} {b : Bool}
theorem rd_v {i : Nat} (h : σ[i]? = some (some v)) (k : Q v H) : tVar i σ H Q := ⟨v, h, k⟩
theorem rd_c (k : Q v H) : tC v σ H Q := k
theorem rd_op (k : ta σ H fun x H1 => tb σ H1 fun y H2 => r x y H2 Q) : tOp r ta tb σ H Q := k
theorem rd_un {r : V → Hp → VK → Prop} (k : ta σ H fun x H1 => r x H1 Q) : tUn r ta σ H Q := k
theorem rd_I0 {g : Int → Int → V} (k : Q (g i j) H) : rI0 g (.int i) (.int j) H Q := ⟨i, j, rfl, rfl, k⟩
theorem rd_I {C : Int → Int → Prop} {g : Int → Int → V} (c : C i j) (k : Q (g i j) H) : rI C g (.int i) (.int j) H Q := ⟨i, j, rfl, rfl, c, k⟩
theorem rd_U {g : Int → V} (k : Q (g i) H) : rU g (.int i) H Q := ⟨i, rfl, k⟩
theorem rd_S0 {g : Str → Str → V} {x y : Str} (k : Q (g x y) H) : rS0 g (.str x) (.str y) H Q := ⟨x, y, rfl, rfl, k⟩
def rCatS : R2 := fun x y H Q => ∃ i j, x = .str i ∧ y = .str j ∧ i.length + j.length ≤ sizeLine ∧ Q (.str (i ++ j)) H
theorem op_catS {X : Cx} : OpR X (binaryOp .Add) rCatS := op_add_str
theorem rd_catS {x y : Str} (h : catOk x y = true) (k : Q (.str (x ++ y)) H) : rCatS (.str x) (.str y) H Q := ⟨x, y, rfl, rfl, catOk_of h, k⟩
def rNiS : R2 := fun x y H Q => ∃ i j, x = .str i ∧ y = .str j ∧ Q (.bl (!inS i j)) H
theorem op_niS {X : Cx} : OpR X (compareOp .NotIn) rNiS := op_notin_str
theorem rd_niSS {x y : Str} (k : Q (.bl (!inS x y)) H) : rNiS (.str x) (.str y) H Q := ⟨x, y, rfl, rfl, k⟩
theorem rd_ixS {x z : Str} (h : ixS x i = some z) (k : Q (.str z) H) : rIxS (.str x) (.int i) H Q := by
  obtain ⟨c, h1, h2, rfl⟩ := ixS_some h
  exact ⟨x, i, c, rfl, rfl, h1, h2, k⟩
/-! tests -/
variable {QB : Bool → Hp → Prop}
/-- what is wanted of a truth -/
def bK (QB : Bool → Hp → Prop) : VK := fun x H => ∃ k, x = .bl k ∧ QB k H
theorem rd_test (k : te σ H (bK QB)) : tTest te σ H QB := k
theorem rd_tB (k : te σ H (bK QB)) : tB te σ H QB := k
theorem rd_b (k : QB b H) : bK QB (.bl b) H := ⟨b, rfl, k⟩
theorem rd_and (k : t σ H fun c H1 => if c = true then u σ H1 QB else QB false H1) : tAnd t u σ H QB := k
theorem rd_or (k : t σ H fun c H1 => if c = true then QB true H1 else u σ H1 QB) : tOr t u σ H QB := k
theorem rd_not (k : t σ H fun c H1 => QB (!c) H1) : tNot t σ H QB := k
theorem rd_andV (k : ta σ H (bK fun c H1 => if c = true then tb σ H1 Q else Q (.bl false) H1)) : tAndV ta tb σ H Q := k
theorem rd_orV (k : ta σ H (bK fun c H1 => if c = true then Q (.bl true) H1 else tb σ H1 Q)) : tOrV ta tb σ H Q := k
theorem rd_notV (k : ta σ H (bK fun c H1 => Q (.bl (!c)) H1)) : tNotV ta σ H Q := k
/-! arguments, calls -/
variable {QA : List V → Hp → Prop}
theorem rd_nil (k : QA [] H) : tNil σ H QA := k
theorem rd_cons (k : te σ H fun x H1 => tr σ H1 fun xs H2 => QA (x :: xs) H2) : tCons te tr σ H QA := k
theorem rd_call {sp : Sp} {dvs : List V} {E : XK} (k : tr σ H fun vs H1 => sp (vs ++ dvs) H1 Q E) : tCall sp dvs E tr σ H Q := k
theorem rd_cb {r : List V → Hp → VK → Prop} (k : tr σ H fun xs H1 => r xs H1 Q) : tCB r tr σ H Q := k
def lK (Q : VK) : List V → Hp → Prop := fun xs H1 => xs.length ≤ sizeLine ∧ ∀ p, H1 p = none → Q (.ref p) (upd H1 p (.lst xs))
def uK (Q : VK) : List V → Hp → Prop := fun xs H1 => xs.length ≤ sizeLine ∧ ∀ p, H1 p = none → Q (.ref p) (upd H1 p (.tup xs))
theorem rd_lst (k : tr σ H (lK Q)) : tLst tr σ H Q := k
theorem rd_lK {xs : List V} (h : Nat.ble xs.length 1000 = true) (k : nK Q H (.lst xs)) : lK Q xs H := ⟨Nat.le_trans (Nat.le_of_ble_eq_true h) (by decide), k⟩
theorem rd_uK {xs : List V} (h : Nat.ble xs.length 1000 = true) (k : nK Q H (.tup xs)) : uK Q xs H := ⟨Nat.le_trans (Nat.le_of_ble_eq_true h) (by decide), k⟩
theorem rd_tup (k : tr σ H (uK Q)) : tTup tr σ H Q := k
theorem rd_bm {T : String} {r : V → List V → Hp → VK → Prop} (k : te σ H fun x H1 => tyV K T x H1 ∧ tr σ H1 fun xs H2 => r x xs H2 Q) : tBM K T r te tr σ H Q := k
theorem rd_ty {A B : Prop} (h : A) (k : B) : A ∧ B := ⟨h, k⟩
theorem rd_thn {k' : V → Hp → VK → Prop} (k : te σ H fun x H1 => k' x H1 Q) : tThen te k' σ H Q := k
/-! slices -/
variable {QO : Option Int → Hp → Prop}
theorem rd_sl {r : V → Option Int → Option Int → Hp → VK → Prop} {tl th : TO} (k : te σ H fun x H1 => tl σ H1 fun l H2 => th σ H2 fun u H3 => r x l u H3 Q) : tSl r te tl th σ H Q := k
theorem rd_np (k : QO none H) : tNoPart σ H QO := k
def iK (QO : Option Int → Hp → Prop) : VK := fun x H => ∃ i, x = .int i ∧ QO (some i) H
theorem rd_pt (k : te σ H (iK QO)) : tPart te σ H QO := k
theorem rd_i (k : QO (some i) H) : iK QO (.int i) H := ⟨i, rfl, k⟩
/-! built-ins -/
def rInt1 : List V → Hp → VK → Prop := fun xs H Q => (∃ i, xs = [.int i] ∧ Q (.int i) H) ∨ ∃ k, xs = [.bl k] ∧ Q (.int (if k then 1 else 0)) H
theorem cr_int {X : Cx} : CallR X (.type "int") rInt1 := call_int1
theorem rd_intI (k : Q (.int i) H) : rInt1 [.int i] H Q := .inl ⟨i, rfl, k⟩
theorem rd_intB (k : Q (.int (b2I b)) H) : rInt1 [.bl b] H Q := .inr ⟨b, rfl, k⟩
def rMax2 : List V → Hp → VK → Prop := fun xs H Q => ∃ i j, xs = [.int i, .int j] ∧ Q (.int (if j > i then j else i)) H
theorem cr_max2 {X : Cx} (hc : X.calm = true) : CallR X (.builtin "max") rMax2 := call_max2 hc
theorem rd_max2 (k : Q (.int (maxI i j)) H) : rMax2 [.int i, .int j] H Q := ⟨i, j, rfl, k⟩
def rMin2 : List V → Hp → VK → Prop := fun xs H Q => ∃ i j, xs = [.int i, .int j] ∧ Q (.int (if j < i then j else i)) H
theorem cr_min2 {X : Cx} (hc : X.calm = true) : CallR X (.builtin "min") rMin2 := call_min2 hc
theorem rd_min2 (k : Q (.int (minI i j)) H) : rMin2 [.int i, .int j] H Q := ⟨i, j, rfl, k⟩
def rLenS : List V → Hp → VK → Prop := fun xs H Q => ∃ z, xs = [.str z] ∧ z.length ≤ sizeLine ∧ Q (.int z.length) H
theorem cr_lenS {X : Cx} : CallR X (.builtin "len") rLenS := call_len_str
theorem rd_lenS {z : Str} (h : fitsS z = true) (k : Q (.int (z.length : Int)) H) : rLenS [.str z] H Q := ⟨z, rfl, fitsS_of h, k⟩
def rLenQ (K : PySem.W.Frag) : List V → Hp → VK → Prop := fun xs H Q => ∃ p ys, xs = [.ref p] ∧ (SqL K H p ys ∨ SqT K H p ys) ∧ Q (.int ys.length) H
theorem cr_lenQ {X : Cx} : CallR X (.builtin "len") (rLenQ X.K) := call_len_seq
theorem rd_lenQ {α : Type} {A : R α} {F : Hp} {xs : List α} (s : SeenQ A K F H v xs) (k : Q (.int (xs.length : Int)) H) : rLenQ K [v] H Q := rd_len s k
/-! targets, statements -/
variable {QS : L2.St → Hp → Prop} {g : TG} {ts us : TS} {N B C : L2.St → Hp → Prop} {R : VK}
theorem rd_gn {i : Nat} (k : QS (σ.set i (some v)) H) : gName i v σ H QS := k
theorem rd_gsub {st : TSet} (k : ta σ H fun o H1 => tb σ H1 fun i H2 => st o i v H2 fun H3 => QS σ H3) : gSub ta tb st v σ H QS := k
theorem rd_seq (k : ts ⟨us ⟨N, R, B, C⟩, R, B, C⟩ σ H) : tSeq ts us ⟨N, R, B, C⟩ σ H := k
theorem rd_asg (k : te σ H fun x H1 => g x σ H1 N) : tAsg te g ⟨N, R, B, C⟩ σ H := k
theorem rd_ifS (k : t σ H fun b H1 => if b = true then ts D σ H1 else us D σ H1) : tIfS t ts us D σ H := k
theorem rd_ret (k : te σ H R) : tRet te ⟨N, R, B, C⟩ σ H := k
theorem rd_drop (k : te σ H fun _ H1 => N σ H1) : tDrop te ⟨N, R, B, C⟩ σ H := k
theorem rd_next (k : N σ H) : tNext ⟨N, R, B, C⟩ σ H := k
theorem rd_cut (Mid : L2.St → Hp → Prop) (h : ts ⟨Mid, R, B, C⟩ σ H) (k : ∀ σ' H', Mid σ' H' → us ⟨N, R, B, C⟩ σ' H') : C8.tCut ts us ⟨N, R, B, C⟩ σ H := ⟨Mid, h, k⟩
theorem rd_for {wi : TI} (k : wi σ H fun J H1 => ForG J g ts D σ H1) : tFor wi g ts D σ H := k
theorem rd_lc {wi : TI} {vs : List Nat} (k : wi σ H fun J H1 => ∀ D, H1 D = none → LcG J g t te vs σ D Q H1) : tLc wi g t te vs σ H Q := k
variable {RI : It → Hp → Prop}
def wS (RI : It → Hp → Prop) : VK := fun v H1 => ∃ x, v = .str x ∧ RI (Its x) H1
def wR1 (RI : It → Hp → Prop) : List V → Hp → Prop := fun vs H1 => ∃ j : Int, vs = [.int j] ∧ -(2 ^ 62) ≤ j ∧ j < 2 ^ 62 ∧ RI (Itr 0 j.toNat) H1
theorem rd_iS (k : te σ H (wS RI)) : iStr te σ H RI := k
theorem rd_iR1 (k : tr σ H (wR1 RI)) : iRng1 tr σ H RI := k
theorem rd_wS {z : Str} (k : RI (Its z) H) : wS RI (.str z) H := ⟨z, rfl, k⟩
def rgOk (a b : Int) : Bool := (decide (-(2 ^ 62) ≤ a) && decide (a < 2 ^ 62)) && (decide (-(2 ^ 62) ≤ b) && decide (b < 2 ^ 62))
theorem rd_r1 {n : Int} (h : rgOk 0 n = true) (k : RI (Itr 0 (n - 0).toNat) H) : wR1 RI [.int n] H := by
  unfold rgOk at h
  simp only [Bool.and_eq_true, decide_eq_true_eq] at h
  exact ⟨n, rfl, h.2.1, h.2.2, by rw [Int.sub_zero] at k; exact k⟩
end
end Gl
namespace Gl
open PySem PySem.Spec PyProof.Rows L2
theorem if_t {α : Type} {b : Bool} {x y r : α} (h : (if b = true then x else y) = r) (hb : b = true) : x = r := by
  rw [hb] at h; exact h
theorem if_f {α : Type} {b : Bool} {x y r : α} (h : (if b = true then x else y) = r) (hb : b = false) : y = r := by
  rw [hb] at h; exact h
theorem if_tt {A B : Prop} (h : A) : if true = true then A else B := h
theorem aft_nx {S ρ : Type} {s : S} {k : S → Option ρ} {r : Option ρ} (h : aft (.nx s) k = r) : k s = r := h
theorem aft_rt {S ρ : Type} {v : ρ} {k : S → Option ρ} {r : Option ρ} (h : aft (.rt v) k = r) : some v = r := h
/-! ## text times int, list(text) -/
section
variable {X : Cx}
def repS (x : Str) (n : Int) : Str := Txt.mul x n
def repOk (x : Str) (n : Int) : Bool := (decide (-(2 ^ 62) ≤ n) && decide (n < 2 ^ 62)) && decide (x.length * n.toNat ≤ 100000) && decide (x.length ≤ 100000)
theorem repOk_of {x : Str} {n : Int} (h : repOk x n = true) : MulOk x n := by
  unfold repOk at h
  simp only [Bool.and_eq_true, decide_eq_true_eq] at h
  obtain ⟨⟨⟨h1, h2⟩, h3⟩, h4⟩ := h
  refine ⟨?_, fun a _ => ?_, fun a _ => ?_⟩
  · have e1 : decide (n < -(2 ^ 63 : Int)) = false := decide_eq_false (by omega)
    have e2 : decide (n ≥ (2 ^ 63 : Int)) = false := decide_eq_false (by omega)
    rw [e1, e2]; rfl
  · have hn : 0 < n := by omega
    intro c
    have e3 : (x.length : Int) * n ≤ 100000 := by
      have e4 : ((x.length * n.toNat : Nat) : Int) ≤ ((100000 : Nat) : Int) := Int.ofNat_le.mpr h3
      have e5 : (n.toNat : Int) = n := Int.toNat_of_nonneg (by omega)
      rw [Int.natCast_mul, e5] at e4
      have e7 : ((100000 : Nat) : Int) = 100000 := rfl
      rw [e7] at e4
      exact e4
    have e6 : (x.length : Int) ≤ (2 ^ 63 - 1) / n := by
      rw [Int.le_ediv_iff_mul_le hn]
      omega
    omega
  · have e1 : sizeLine = 16777216 := sizeLine_eq
    unfold Builtin.Str.tooLong
    exact decide_eq_false (by omega)
def rRepS : R2 := fun x y H Q => ∃ z n, x = .str z ∧ y = .int n ∧ repOk z n = true ∧ Q (.str (repS z n)) H
theorem op_repS : OpR X (binaryOp .Mult) rRepS := by
  intro pins s σ H x y v u Q I rx ry h
  obtain ⟨z, n, rfl, rfl, ok, q⟩ := h
  obtain ⟨t, rfl⟩ := rx
  obtain ⟨t', rfl⟩ := ry
  exact SB.mul (repOk_of ok) fun t2 k => ⟨.str _, H, I.tok _, ⟨_, rfl⟩, q⟩
theorem rd_repS {H : Hp} {Q : VK} {z : Str} {n : Int} (h : repOk z n = true) (k : Q (.str (repS z n)) H) : rRepS (.str z) (.int n) H Q := ⟨z, n, rfl, rfl, h, k⟩
end
/-! ## targets of two names; a block's slots -/
section
variable {K : PySem.W.Frag} {σ : L2.St} {H : Hp} {p : Addr} {u w : V} {QS : L2.St → Hp → Prop} {t g : TG} {ts : TGs} {n : Nat} {vs : List V}
theorem rd_wp {A B : Prop} (h : A) (k : B) : A ∧ B := ⟨h, k⟩
end
/-! ## isinstance of a value whose kind is known -/
section
variable {K : PySem.W.Frag} {P : Addr → Prop} {F0 H0 F H : Hp} {v : V} {α β : Type} {A : R α} {B : R β} {xs : List α} {Q : VK}
theorem tx_int {i : Int} : TyX K H (.int i) (.type "int") := .base (.int i)
theorem tx_bl {i : Bool} : TyX K H (.bl i) (.type "bool") := .base (.bl i)
theorem tx_str {i : Str} : TyX K H (.str i) (.type "str") := .base (.str i)
theorem tx_non : TyX K H .non (.type "NoneType") := .base .non
theorem tx_sqt {p : Addr} {vs : List V} (h : SqT K H p vs) : TyX K H (.ref p) (.type "tuple") := by
  rcases h with (h | ⟨o, h⟩) | ⟨o, its, n, h1, h2, _⟩
  · exact .base (.tup h)
  · exact .fTuple h
  · exact .kTuple h1 h2
theorem tx_tup (s : SeenT A K F H v xs) : TyX K H v (.type "tuple") := by
  obtain ⟨p, vs, rfl, h, _⟩ := s
  exact tx_sqt h
theorem rd_isi {t : Value} {n : String} {b : Bool} (s : TyX K H v t) (h : PySem.W.kitOne [] t (.type n) = some b) (k : Q (.bl b) H) (hk : PySem.W.kitOne K t (.type n) = PySem.W.kitOne [] t (.type n) := by rfl) : rIsi K [v, .ty n] H Q :=
  ⟨v, .ty n, t, .type n, b, rfl, .ty n, s, hk.trans h, k⟩
end
/-! ## a def's promise, its end -/
theorem live1 {P : Addr → Prop} {H0 F H : Hp} {p : Addr} {o : HO} (w : Ow P H0 F H p o) : ∀ a, a = p → H a ≠ none := fun a z => by rw [z, w.at_]; exact fun h => nomatch h
end Gl
namespace Gl
open PySem PySem.Spec PyProof.Rows L2
end Gl
namespace Gl
open PySem PySem.Spec PyProof.Rows L2
/-! ## what is never reached -/
theorem if_ff {A B : Prop} (h : B) : if false = true then A else B := h
section
variable {X : Cx}
theorem pss_dead {ss : List Stmt} : PSs X ss (fun _ _ _ => False) := ⟨fun _ _ _ _ _ _ h => h.elim⟩
end
end Gl
namespace Gl
open PySem PySem.Spec PyProof.Rows L2
/-! ## a thing of any plain kind -/
inductive Th where
  | d (x : PyData) | dct
def qTh : R Th := ⟨fun K F v a => match a with
  | .d x => Dp K F v x
  | .dct => ∃ p, v = .ref p ∧ F p = some (.dK []), fun {K F F' v a} e h => by
    cases a with
    | d x => exact Dp.mono e h
    | dct =>
      obtain ⟨p, h1, h2⟩ := h
      exact ⟨p, h1, e _ _ h2⟩⟩
def thK : Th → String
  | .d .none => "NoneType"
  | .d (.bool _) => "bool"
  | .d (.int _) => "int"
  | .d (.str _) => "str"
  | .d (.list _) => "list"
  | .d (.tuple _) => "tuple"
  | .d (.dict _) => "dict"
  | .dct => "dict"
def isK (k n : String) : Bool := k == n || (k == "bool" && n == "int")
def thIs (n : String) (a : Th) : Bool := isK (thK a) n
def thS : Th → Option Str
  | .d (.str s) => some s
  | _ => none
section
variable {K : PySem.W.Frag} {P : Addr → Prop} {F0 H0 F H : Hp} {v : V} {a : Th} {Q : VK}
theorem thS_fact {s : Str} (r : qTh.r K F v a) (h : thS a = some s) : v = .str s := by
  cases a with
  | dct => cases h
  | d x =>
    cases x with
    | str z =>
      cases (show some z = some s from h)
      cases (show Dp K F v (.str _) from r)
      rfl
    | _ => cases h
theorem tx_sql {p : Addr} {vs : List V} (h : SqL K H p vs) : TyX K H (.ref p) (.type "list") := by
  rcases h with (h | ⟨o, h⟩) | ⟨o, its, n, h1, h2, _⟩
  · exact .base (.lst h)
  · exact .base (.frz h)
  · exact .kList h1 h2
theorem tx_th (S : Sx P F0 H0 F H) (r : qTh.r K F v a) : TyX K H v (.type (thK a)) := by
  cases a with
  | dct =>
    obtain ⟨p, rfl, h⟩ := r
    exact .base (.dK (S.sub _ _ h))
  | d x =>
    cases x with
    | none => cases (show Dp K F v .none from r); exact tx_non
    | bool b => cases (show Dp K F v (.bool b) from r); exact tx_bl
    | int b => cases (show Dp K F v (.int b) from r); exact tx_int
    | str b => cases (show Dp K F v (.str b) from r); exact tx_str
    | list b =>
      cases (show Dp K F v (.list b) from r) with
      | lst h _ => exact tx_sql (Same.seq S.sub h)
    | tuple b =>
      cases (show Dp K F v (.tuple b) from r) with
      | tup h _ => exact tx_sqt (same_t S.sub h)
    | dict b => cases (show Dp K F v (.dict b) from r)
theorem rd_isiTh {n : String} (s : TyX K H v (.type (thK a))) (h : (["NoneType", "bool", "int", "str", "list", "tuple", "dict"].all fun k => decide (PySem.W.kitOne [] (.type k) (.type n) = some (isK k n))) = true) (k : Q (.bl (thIs n a)) H) (hk : ∀ t, PySem.W.kitOne K (.type t) (.type n) = PySem.W.kitOne [] (.type t) (.type n) := by intro t; rfl) : rIsi K [v, .ty n] H Q := by
  refine ⟨v, .ty n, _, .type n, thIs n a, rfl, .ty n, s, (hk _).trans ?_, k⟩
  have hm : thK a ∈ ["NoneType", "bool", "int", "str", "list", "tuple", "dict"] := by
    cases a with
    | dct => decide
    | d x => cases x <;> simp [thK]
  exact of_decide_eq_true (List.all_eq_true.mp h _ hm)
end
end Gl
namespace Gl
open PySem PySem.Spec PyProof.Rows L2
/-! ## instances -/
section
variable {K : PySem.W.Frag} {P : Addr → Prop} {F0 H0 F H : Hp} {v : V} {Q : VK} {σ : L2.St} {ta te to : TE} {C p dx : Addr} {m f : Str} {sp : Sp} {E : XK} {t : TA} {dvs : List V} {fs : List (Str × V)}
def fdK (K : PySem.W.Frag) (f : Str) (Q : VK) : VK := fun x H1 => ∃ a C dx fs v, x = .ref a ∧ H1 a = some (.ins C dx fs) ∧ Cls K C ∧ NoAttr K C f ∧ fs.lookup f = some v ∧ Q v H1
theorem rd_fld (k : ta σ H (fdK K f Q)) : tFld K ta f σ H Q := k
theorem fd_at {u : V} (h : H p = some (.ins C dx fs)) (c : Cls K C) (n : NoAttr K C f) (l : fs.lookup f = some u) (k : Q u H) : fdK K f Q (.ref p) H := ⟨p, C, dx, fs, u, rfl, h, c, n, l, k⟩
def fsK (K : PySem.W.Frag) (f : Str) (y : V) (R : Hp → Prop) : VK := fun x H2 => ∃ a C dx fs, x = .ref a ∧ H2 a = some (.ins C dx fs) ∧ Cls K C ∧ NoAttr K C f ∧ fs.length < 1000 ∧ R (upd H2 a (.ins C dx (putF f y fs)))
theorem rd_sfld {N B C : L2.St → Hp → Prop} {R : VK} (k : te σ H fun y H1 => to σ H1 (fsK K f y (N σ))) : sFld K to te f ⟨N, R, B, C⟩ σ H := k
theorem fset {y : V} {R : Hp → Prop} {fs' : List (Str × V)} (S : Sx P F0 H0 F H) (w : Ow P H0 F H p (.ins C dx fs)) (c : Cls K C) (n : NoAttr K C f) (l : Nat.ble fs.length 900 = true) (e : putF f y fs = fs') (k : ∀ H', Sx (fun a => a = p) F H F H' → Ow P H0 F H' p (.ins C dx fs') → R H') : fsK K f y R (.ref p) H :=
  ⟨p, C, dx, fs, rfl, w.at_, c, n, Nat.lt_of_le_of_lt (Nat.le_of_ble_eq_true l) (by decide), by rw [e]; exact k _ (putS S w) w.put⟩
def mtK (C : Addr) (m : Str) (G : V → Hp → Prop) : VK := fun x H1 => ∃ a dx fs, x = .ref a ∧ H1 a = some (.ins C dx fs) ∧ fs.lookup m = none ∧ G x H1
theorem rd_meth (k : ta σ H (mtK C m fun x H1 => t σ H1 fun vs H2 => sp (x :: (vs ++ dvs)) H2 Q E)) : tMeth C m sp dvs E ta t σ H Q := k
theorem mt_at {G : V → Hp → Prop} (h : H p = some (.ins C dx fs)) (l : fs.lookup m = none) (k : G (.ref p) H) : mtK C m G (.ref p) H := ⟨p, dx, fs, rfl, h, l, k⟩
/-- a new instance: what is wanted of it -/
def mkK (C : Addr) (sp : Sp) (E : XK) (Q : VK) : List V → Hp → Prop := fun vs H1 => ∀ x dx, H1 x = none → H1 dx = none → dx ≠ x → sp (.ref x :: vs) (upd (upd H1 dx (.own x)) x (.ins C dx [])) (fun v H2 => v = .non ∧ Q (.ref x) H2) E
theorem rd_makeR (k : t σ H (mkK C sp E Q)) : StX.tMakeR C sp E t σ H Q := k
/-- what a def with a star parameter promises, by what its body does -/
def starSp (n : Nat) (sp : Sp) : Sp := fun vs H Q E => ∃ ws rest, vs = ws ++ rest ∧ ws.length = n ∧ rest.length ≤ sizeLine ∧ ∀ p, H p = none → sp (ws ++ [.ref p]) (upd H p (.tup rest)) Q E
theorem mk_star {α : Type} {A : R α} {vs : List V} {xs : List α} (S : Sx P F0 H0 F H) (r : Row A K F vs xs) (hl : Nat.ble vs.length 900 = true)
    (k : ∀ x dx v F1 H1, H x = none → Sx P0 F H F1 H1 → Ow (fun a => a = x) H1 F1 H1 x (.ins C dx []) → (qT A).r K F1 v xs → sp [.ref x, v] H1 (fun v H2 => v = .non ∧ Q (.ref x) H2) E) : mkK C (starSp 1 sp) E Q vs H := by
  intro x dx hx hdx ne
  refine ⟨[.ref x], vs, rfl, rfl, Nat.le_trans (Nat.le_of_ble_eq_true hl) (Nat.le_trans (by decide) (show 1000 ≤ sizeLine by rw [sizeLine_eq]; decide)), fun p hp => ?_⟩
  have hdx2 : upd H dx (.own x) x = none := by rw [upd_ne (Ne.symm ne)]; exact hx
  have c1 : Sx P0 F H F (upd (upd H dx (.own x)) x (.ins C dx [])) := ((Sx.refl0 S.sub).temp hdx).temp hdx2
  have hxp : x ≠ p := fun e => by subst e; rw [upd_same] at hp; cases hp
  have c2 := c1.alloc (o := .tup vs) hp
  refine k x dx (.ref p) _ _ hx c2 ⟨?_, ?_, .inr rfl⟩ ⟨p, vs, rfl, .inl (.inl upd_same), Row.mono c2.le r⟩
  · rw [upd_ne hxp]
    exact S.free hx
  · rw [upd_ne hxp, upd_same]
/-- what __init__ has made is let stand for good -/
theorem fzI {x : Addr} {F1 H1 F' H' : Hp} {o : HO} (c1 : Sx P0 F H F1 H1) (hx : H x = none) (c : Sx (fun a => a = x) F1 H1 F' H') (w : Ow (fun a => a = x) H1 F' H' x o) : ∃ F'', Sx P0 F H F'' H' ∧ Same F' F'' ∧ F'' x = some o := by
  have S2 : Sx P0 F H F' H' := c1.call c fun a e => by subst e; exact .inr hx
  have w2 : Ow P0 H F' H' x o := ⟨w.fr, w.at_, .inl hx⟩
  exact ⟨_, S2.freeze w2 hx, w2.leF, upd_same⟩
end
/-! ## join, xs[i] = v -/
section
variable {K : PySem.W.Frag} {P : Addr → Prop} {F0 H0 F H : Hp} {v : V} {Q : VK} {α : Type} {A : R α} {xs : List α} {p : Addr} {vs : List V} {i : Int}
def joinOk (a : Str) (ys : List Str) : Bool := decide ((ys.map (·.length)).sum + ys.length * a.length ≤ 16777216)
end
section
variable {K : PySem.W.Frag} {P : Addr → Prop} {F0 H0 F H : Hp} {v : V} {Q : VK} {α : Type} {A : R α} {xs : List α} {lo hi : Option Int}
theorem rd_slA (S : Sx P F0 H0 F H) (r : (qT A).r K F v xs) (k : ∀ v' F' H', Sx P0 F H F' H' → (qT A).r K F' v' (cut xs lo hi) → Q v' H') : rSlA K v lo hi H Q := by
  obtain ⟨p, vs, rfl, h1, h2⟩ := id r
  refine ⟨p, vs, rfl, same_t S.sub h1, fun hw => ?_, fun _ q hq => alT' S k q _ hq (row_cut h2 lo hi)⟩
  refine k _ F H (Sx.refl0 S.sub) ?_
  have e : cut xs lo hi = xs := by
    unfold cut
    rw [← pLen h2, hw.1, hw.2, List.drop_zero, Nat.sub_zero, List.take_of_length_le (by rw [pLen h2]; exact Nat.le_refl _)]
  rw [e]
  exact r
end
section
variable {X : Cx} {K : PySem.W.Frag} {e l tg : Expr} {te : TE} {f : Str} {pos : Pos}
theorem pe_fldK (he : PE X e te) (hb : attributeBase e f X.env (eval e X.env) = eval e X.env) (hK : X.K = K := by rfl) : PE X (.Attribute e f pos) (tFld K te f) := by subst hK; exact pe_fld he hb
end
end Gl
namespace Gl
open PySem PySem.Spec PyProof.Rows L2
end Gl
namespace Gl
open PySem PySem.Spec PyProof.Rows L2
end Gl
namespace Gl
open PySem PySem.Spec PyProof.Rows L2
/-! ## dicts whose keys are tuples of any depth, their values True -/
mutual
inductive NKv (K : PySem.W.Frag) (H : Hp) : NestedKey → V → Prop
  | non : NKv K H .none .non
  | bl (b : Bool) : NKv K H (.num (if b = true then 1 else 0)) (.bl b)
  | int (i : Int) : NKv K H (.num i) (.int i)
  | txt (x : Str) : NKv K H (.text x) (.str x)
  | tup {p : Addr} {vs : List V} {ks : List NestedKey} : SqT K H p vs → NKs K H ks vs → NKv K H (.tup ks) (.ref p)
inductive NKs (K : PySem.W.Frag) (H : Hp) : List NestedKey → List V → Prop
  | nil : NKs K H [] []
  | cons {k : NestedKey} {v : V} {ks : List NestedKey} {vs : List V} : NKv K H k v → NKs K H ks vs → NKs K H (k :: ks) (v :: vs)
end
mutual
theorem NKv.mono {K : PySem.W.Frag} {F F' : Hp} (e : Same F F') : ∀ {k : NestedKey} {v : V}, NKv K F k v → NKv K F' k v
  | _, _, .non => .non
  | _, _, .bl b => .bl b
  | _, _, .int i => .int i
  | _, _, .txt x => .txt x
  | _, _, .tup h a => .tup (same_t e h) (NKs.mono e a)
theorem NKs.mono {K : PySem.W.Frag} {F F' : Hp} (e : Same F F') : ∀ {ks : List NestedKey} {vs : List V}, NKs K F ks vs → NKs K F' ks vs
  | _, _, .nil => .nil
  | _, _, .cons h a => .cons (NKv.mono e h) (NKs.mono e a)
end
section
variable {X : Cx} {pins : List (Addr × Obj)} {σ : L2.St} {H : Hp} {s : Shared}
mutual
theorem NKv.is (I : Inv X pins σ H s) : ∀ {k : NestedKey} {v : V} {u : Value}, NKv X.K H k v → RelV v u → NestedIs s.heap k u
  | _, _, u, .non, r => by
    cases r
    exact .none
  | _, _, u, .bl b, r => by
    cases r
    exact .bool rfl
  | _, _, u, .int i, r => by
    obtain ⟨t, rfl⟩ := r
    exact .int i t
  | _, _, u, .txt x, r => by
    obtain ⟨t, rfl⟩ := r
    exact .text x t
  | _, _, u, .tup h a, r => by
    cases (show u = Value.ref _ from r)
    obtain ⟨its, rv, ⟨o, e1, e2, n, e3⟩, _⟩ := I.tuple h
    exact .tup e1 e2 e3 (by simpa using NKs.is I a rv)
theorem NKs.is (I : Inv X pins σ H s) : ∀ {ks : List NestedKey} {vs : List V} {us : List Value}, NKs X.K H ks vs → Vals vs us → NestedAll s.heap ks us
  | _, _, _, .nil, .nil => .nil
  | _, _, _, .cons h a, .cons r rs => .cons (NKv.is I h r) (NKs.is I a rs)
end
end
/-- what stands for a key -/
structure Kd {α : Type} (A : R α) where
  k : α → NestedKey
  is : ∀ {K : PySem.W.Frag} {F : Hp} {v : V} {a : α}, A.r K F v a → NKv K F (k a) v
  inj : ∀ a b : α, k a = k b → a = b
  dep : ∀ a : α, (k a).depth ≤ 8
def kI : Kd qI := ⟨.num, fun {K F v a} h => by cases (show v = .int a from h); exact .int a, fun a b h => by cases h; rfl, fun a => by show 0 ≤ 8; omega⟩
end Gl
namespace Gl
open PySem PySem.W PySem.Calls PyProof.Rows
end Gl
namespace Gl
open PySem PySem.Spec PyProof.Rows L2
end Gl
namespace Gl
open PySem PySem.W PySem.Calls PyProof.Rows
end Gl
namespace Gl
open PySem PySem.Spec PyProof.Rows L2
/-- what a class must have for == by a method of the program's own -/
structure OwnEq (K : PySem.W.Frag) (C f : Addr) : Prop where
  at_ : PySem.W.findIn K (.ref C) "__eq__" = some (some (.ref f))
  fn : PySem.W.isFn K (.ref f) = true
end Gl
namespace PySem
namespace OwnE
open PySem.W PySem.Calls PyProof.Rows PySem.HandSPX
/-! ## own errors over ValueError whose __init__ says super().__init__('text') and then keeps its parameters as fields -/
abbrev supS (text : Str) (j : Nat) (p0 p1 p2 p3 p4 p5 : Pos) : Stmt := .Expr (.Call (.Attribute (.Call (.Name "super" p0) [] [] p1) "__init__" p2) [.Constant (.str text) j p3] [] p4) p5
abbrev setS (f : Str) (q1 q2 q3 q4 : Pos) : Stmt := .Assign [.Attribute (.Name "self" q1) f q2] (.Name f q3) q4
/-- what the written part says of the class at C and of its __init__ at fI (q: its long name) -/
structure ErC (P : Program) (K : Frag) (C fI : Addr) (q : Str) (params : Arguments) (body : List Stmt) (scope : Scope) : Prop where
  x : L2.OexC K C
  iC : findIn K (.ref C) "__init__" = some (some (.ref fI))
  tC : typeIn K (.ref fI) = some (.type "function")
  sup : ks_superIn K C C "__init__" = some (some (.builtin "ValueError.__init__"))
  sub : subIn K (.ref C) (.type "ValueError") = some true
  own : mroIn K C (.ref C) = some true
  tp : nsIn K cStatics "thirdparty.any" = some none
  sg : nsIn K mainGlobals "super" = some none
  main : (P.main.scope.names.lookup ("super" : Str)).isSome = false
  fn : ∃ (oc : Value) (od : Option Addr) (kV doc pm : Value) (an : Option Addr) (cda : Addr) (ct : Value) (cc : Addr) (osl : Array (Option Value)) (ccl : Value) (cdd : Option Addr) (vs : Array Value) (ccs : Array (Option Value)) (file : Str) (tf : Tok) (cl : Value) (cld : Option Addr) (csl : Array (Option Value)),
    K.lookup fI = some ⟨oc, od, .func (ksFn "__init__" q params body scope .none kV doc pm an (.ref cda) ct cc), osl⟩ ∧ codeIn K (.ref cda) q = true ∧ K.lookup cda = some ⟨ccl, cdd, .fields vs, ccs⟩ ∧ vs[2]? = some (.str file tf) ∧ ((P.main.file : Str) == file) = true ∧ K.lookup cc = some ⟨cl, cld, .cell (some (.ref C)), csl⟩
section
variable {prog : Program} {w : World} {A : Around} {E : Value → Shared → Prop} {R : Result → Shared → Prop} {s : Shared} {K : Frag} {mg : Str → Option Value} {C fI : Addr} {q text : Str} {params : Arguments} {body : List Stmt} {scope : Scope}
theorem bw_call {u e t0 C : Addr} {nm q : Str} {N : Addr} {bs bm : List Value} {hdct : Bool} {sn : List Str} {sub : List Value} {ab : Bool} {col : Option Bool} {dd : Option Addr} {k0 k1 k2 k3 k5 : Option Value} {h : Heap} {g : Array GenState} {d : Drawn} {t : Nat} {os : OsState} {rest : List Value} {Q : Value → Shared → Prop}
    (hC : h.get? C = some (excClassObj nm q C N bs bm hdct sn sub ab col dd k0 k1 k2 k3 k5 "ValueError.__new__")) (he : h.get? e = some (excO C t0)) (hu : h.get? u = some (kxs_mw "ValueError.__init__" e)) (hrest : rest.length ≤ sizeLine)
    (hq : ∀ h' t1, (∀ b o, b ≠ e → h.get? b = some o → h'.get? b = some o) → h'.get? e = some (excO C t1) → Q .none ⟨h', g, d, t, os⟩) :
    wpAny (model prog w) A (call (.ref u) rest) Q E ⟨h, g, d, t, os⟩ := by
  refine wpAny_call (codeAny_of_tree ?_)
  show wpAny _ A.in1 (callAny (.ref u) ⟨rest, []⟩) _ _ _
  simp only [callAny]
  refine wpAny_bind (wpAny_load hu ?_)
  simp only [kxs_mw, show (Value.type "method-wrapper" == Value.type "method" || Value.type "method-wrapper" == Value.type "builtin_function_or_method" || Value.type "method-wrapper" == Value.type "method-wrapper") = true by decide, if_true]
  refine KFB.if_so (by decide) ?_
  refine wpAny_bind (check_bound_init PySem.F.excBase_ValueError.toExcCallFacts hC he rfl ?_)
  refine wpAny_bind (wpAny_pure (wpAny_pure ?_))
  refine ⟨plainId_quiet PySem.F.excBase_ValueError.init.plain _, codeAny_builtin PySem.F.excBase_ValueError.initEntry ?_⟩
  exact exc_init_tree (cls := .ref C) (t0 := t0) (dv := none) (c2 := .none) (c3 := .none) (b4 := .bool false) he hrest fun h' k e' _ => hq h' _ k e'
/-- super().__init__('text') -/
theorem sup_stmt (T : ErC prog K C fI q params body scope) {L x t0 cc cda : Addr} {m mb : Str → Option Value} {j : Nat} {p0 p1 p2 p3 p4 p5 : Pos} {ar : Arg} {Q : Flow → Shared → Prop} {oc : Value} {od : Option Addr} {dV kV doc pm : Value} {an : Option Addr} {ct : Value} {osl : Array (Option Value)} {ccl : Value} {cdd : Option Addr} {vs : Array Value} {ccs : Array (Option Value)} {file : Str} {tf : Tok} {cl : Value} {cld : Option Addr} {csl : Array (Option Value)}
    (lf : K.lookup fI = some ⟨oc, od, .func (ksFn "__init__" q params body scope dV kV doc pm an (.ref cda) ct cc), osl⟩) (lc : K.lookup cda = some ⟨ccl, cdd, .fields vs, ccs⟩) (hvs : vs[2]? = some (.str file tf)) (hfile : ((prog.main.file : Str) == file) = true)
    (lcc : K.lookup cc = some ⟨cl, cld, .cell (some (.ref C)), csl⟩) (X : K.In s.heap) (G : s.heap.Ns mainGlobals mg) (hsg : mg "super" = none) (Gb : s.heap.Ns builtinsNs mb) (hb : mb "super" = bootBuiltins "super")
    (hn : s.heap.Ns L m) (hv : m ar.arg = some (.ref x)) (hx : s.heap.get? x = some (excO C t0)) (hp : (params.posonlyargs ++ params.args).head? = some ar)
    (hks : scope.names.lookup ("super" : Str) = some .globalImplicit) (hkc : scope.names.lookup ("__class__" : Str) = some .free) (hka : scope.names.lookup ar.arg = some .local) (hk : scope.kind = .function)
    {pl : Sem Bool} (he : eval (.Call (.Attribute (.Call (.Name "super" p0) [] [] p1) "__init__" p2) [.Constant (.str text) j p3] [] p4) (ksEnv q scope L fI (.ref cda) cc) = (do
      let ov ← attributeBase (.Call (.Name "super" p0) [] [] p1) "__init__" (ksEnv q scope L fI (.ref cda) cc) (eval (.Call (.Name "super" p0) [] [] p1) (ksEnv q scope L fI (.ref cda) cc))
      standAt p2.atName
      let (f, first) ← holding [ov] (getMethod ov "__init__" pl)
      callWith p4 f first (backTo p4 (starEach [.Constant (.str text) j p3] (ksEnv q scope L fI (.ref cda) cc))) []))
    (hi : interactive (ksEnv q scope L fI (.ref cda) cc) = false) (hsw : swapsWith (.Call (.Attribute (.Call (.Name "super" p0) [] [] p1) "__init__" p2) [.Constant (.str text) j p3] [] p4) none p5.line (ksEnv q scope L fI (.ref cda) cc) = pure false)
    (hq : ∀ h' tk t1, h'.Ns L m → (∀ b o, b ≠ x → s.heap.get? b = some o → h'.get? b = some o) → h'.get? x = some (excO C t1) → Q .next { s with heap := h', toks := tk }) :
    _root_.PySem.wpAt (model prog w) A (.func body (ksEnv q scope L fI (.ref cda) cc)) (exec (supS text j p0 p1 p2 p3 p4 p5) (ksEnv q scope L fI (.ref cda) cc)) Q E s := by
  obtain ⟨nm, qn, N, bs, bm, sn, sub, ab, col, dd, k0, k1, k2, k3, k5, hC, hbm⟩ := T.x.cls
  have hcl : clsIn K C = some { name := nm, bases := bs, mro := .ref C :: bm, ns := N, qualname := qn, hasDict := true, slotNames := sn, subclasses := sub, abstract := ab, collection := col, hasDel := false } := by unfold clsIn; rw [hC] <;> rfl
  have hm := T.sup
  unfold ks_superIn at hm
  rw [hcl] at hm
  obtain ⟨hh, g, d, t, os⟩ := s
  refine ks_wpAt_Expr_any (ks_wpAt_MethodCall ?_ he) hi hsw
  refine ks_wpAt_super_base (env := ksEnv q scope L fI (.ref cda) cc) hks hkc rfl rfl (X _ _ lf) rfl hp rfl (X _ _ lc) rfl hvs hfile T.main ?_
  refine ks_loadName_global hk hks (loadGlobal_builtin (env := ksEnv q scope L fI (.ref cda) cc) G hsg Gb (hb.trans (by rfl)) ⟨rfl, ?_⟩)
  refine wpAny_loadName_free hk hkc rfl ⟨_, X _ _ lcc, rfl⟩ ?_
  refine wpAny_loadName_local hk hka hn hv ?_
  refine ks_wpAny_isType_cls (X _ _ hC) rfl ⟨rfl, ?_⟩
  refine ks_wpAny_call_super (X _ _ hC) rfl hx rfl (fun c e => by cases e) (looks_mroIn X T.own) (fun h' e k => ?_)
  have X' : K.In h' := X.keeps k
  have hI : Looks (model prog w) h' (isInstance (.ref x) (.type "ValueError")) true := (InstAt.type (⟨k _ _ hx, rfl, rfl, trivial⟩ : InstAt h' x (excO C t0) C none)).andThen (looks_subIn X' T.sub)
  have hxC : x ≠ C := fun z => by
    have e1 := X _ _ hC
    rw [← z, hx] at e1
    cases e1
  refine kxs_getMethod kxs_ValueError e (looks_opaque X' T.tp) (l₀ := .ref C :: bm) (fun A Q E s k q => wpAny_bind ((looks_clsIn X' hcl) A _ E s k (wpAny_pure q))) rfl X' hm hI hxC rfl ?_
  have hw : (h'.push (kxs_mw "ValueError.__init__" x)).get? h'.objs.size = some (kxs_mw "ValueError.__init__" x) := Heap.get?_push_at rfl rfl
  refine kxs_callWith (i := "ValueError.__init__") (x := x) rfl (evalArgs_plain (Calls.spliced_cons (wpAny_Constant_str (k := j) (pos := p3) (Calls.spliced_nil ⟨hw, ?_⟩))))
  refine bw_call ((X'.keeps fun b o e => Heap.get?_push_of_some _ e) _ _ hC) (Heap.get?_push_of_some _ (k _ _ hx)) hw (by rw [sizeLine_eq]; exact (by decide : 1 ≤ 16777216)) fun h3 t1 k3 hx3 => ?_
  obtain ⟨oL, es, ep, hL, r⟩ := hn
  have Lx : L ≠ x := fun z => by
    have e1 := hL
    rw [z] at e1
    have e2 := hx.symm.trans e1
    cases e2
    obtain ⟨hd, _⟩ := r
    cases hd
  exact hq h3 _ t1 ⟨oL, es, ep, k3 _ _ Lx (Heap.get?_push_of_some _ (k _ _ hL)), r⟩ (fun b o hb ho => k3 b o hb (Heap.get?_push_of_some _ (k b o ho))) hx3
end
/-- self.f = f, .. -/
inductive Sets : List Str → List Stmt → Prop
  | nil : Sets [] []
  | cons {f : Str} {fs : List Str} {ss : List Stmt} {q1 q2 q3 q4 : Pos} (r : Sets fs ss) : Sets (f :: fs) (setS f q1 q2 q3 q4 :: ss)
/-- an error that is being made: d its dict (none as yet), of mA; h0 the heap ahead of its making -/
def PartE (h0 h : Heap) (x C t1 : Addr) (mA : Str → Option Value) (ns : List Str) : Option Addr → Prop
  | none => h.get? x = some (excO C t1) ∧ (mA = fun _ => none) ∧ ns = []
  | some dx => h0.objs.size < dx ∧ dx ≠ x ∧ h.get? x = some { cls := .ref C, dict := some dx, data := .fields #[.ref t1, .none, .none, .none, .bool false, .none] } ∧ h.Ns1 dx mA ∧ Within mA ns
def putM : List Str → List Value → (Str → Option Value) → Str → Option Value
  | f :: fs, u :: us, mA => putM fs us (fun y => if y = f then some u else mA y)
  | _, _, mA => mA
section
variable {prog : Program} {w : World} {A : Around} {E : Value → Shared → Prop} {K : Frag} {C : Addr} {env : Env}
theorem kept_but {h h' : Heap} {x : Addr} (X : K.In h) (hx : K.lookup x = none) (k : ∀ b o, b ≠ x → h.get? b = some o → h'.get? b = some o) : K.In h' := fun a o e =>
  k a o (fun z => by rw [z, hx] at e; cases e) (X a o e)
theorem ns1_lt {h : Heap} {dx : Addr} {mA : Str → Option Value} (hn : h.Ns1 dx mA) : dx < h.objs.size := by
  obtain ⟨o, es, ep, ho, rr⟩ := hn
  exact Heap.lt_size ho
theorem sets_run (T : L2.OexC K C) {x t1 L : Addr} {m : Str → Option Value} {h0 : Heap} {Q : Flow → Shared → Prop} (hk : env.scope.kind = .function) (hL : env.locals = L) (hs0 : env.kindOf "self" = some .local) (hmx : m "self" = some (.ref x)) (hLx : L ≠ x) (hnx : K.lookup x = none) (hKl : ∀ a o, K.lookup a = some o → a < h0.objs.size) (hL0 : ∀ dx, h0.objs.size < dx → L ≠ dx) :
    ∀ {fs : List Str} {ss : List Stmt}, Sets fs ss → ∀ (us : List Value) (s : Shared) (d : Option Addr) (mA : Str → Option Value) (ns : List Str), us.length = fs.length → ns.length + fs.length ≤ 900 → (∀ f ∈ fs, env.kindOf f = some .local ∧ (f == ("__debug__" : Str)) = false ∧ findIn K (.ref C) f = some none) → (∀ p ∈ fs.zip us, m p.1 = some p.2) →
      h0.objs.size < s.heap.objs.size → K.In s.heap → s.heap.Ns L m → PartE h0 s.heap x C t1 mA ns d →
      (∀ h' tk d', (∀ b o, b ≠ x → h0.get? b = some o → s.heap.get? b = some o → h'.get? b = some o) → (fs = [] → d' = d) → (∀ z, d = some z → d' = some z) → (fs ≠ [] → d' ≠ none) → PartE h0 h' x C t1 (putM fs us mA) (fs.reverse ++ ns) d' → Q .next { s with heap := h', toks := tk }) →
      wpAny (model prog w) A (execs ss env) Q E s := by
  obtain ⟨nm, qn, N, bs, bm, sn, sub, ab, col, dd, k0, k1, k2, k3, k5, hC, hbm⟩ := T.cls
  have hcl : clsIn K C = some { name := nm, bases := bs, mro := .ref C :: bm, ns := N, qualname := qn, hasDict := true, slotNames := sn, subclasses := sub, abstract := ab, collection := col, hasDel := false } := by unfold clsIn; rw [hC] <;> rfl
  intro fs ss r
  induction r with
  | nil =>
    intro us s d mA ns hl hz hf hm hsz X hn hP hq
    obtain ⟨hp, g, dr, t, os⟩ := s
    have e : us = [] := List.length_eq_zero_iff.mp hl
    subst e
    exact wpAny_execs_nil (hq hp t d (fun b o _ _ h => h) (fun _ => rfl) (fun z h => h) (fun h => absurd rfl h) hP)
  | @cons f fs ss q1 q2 q3 q4 r ih =>
    intro us s d mA ns hl hz hf hm hsz X hn hP hq
    obtain ⟨hp, g, dr, t, os⟩ := s
    cases us with
    | nil => cases hl
    | cons u us =>
      obtain ⟨hf1, hf2, hf3⟩ := hf f (List.mem_cons_self ..)
      have hu : m f = some u := hm (f, u) (by show (f, u) ∈ (f, u) :: fs.zip us; exact List.mem_cons_self ..)
      refine wpAny_execs_cons (plainObj_wpAny_Assign_Attribute ?_ (by rfl))
      refine wpAny_Name (wpAny_loadName_local hk hf1 (by rw [hL]; exact hn) hu ?_) hf2
      refine wpAny_Name (wpAny_loadName_local hk hs0 (by rw [hL]; exact hn) hmx ?_) (by decide)
      have hl' : us.length = fs.length := Nat.succ.inj hl
      have hz' : (f :: ns).length + fs.length ≤ 900 := by simp only [List.length_cons] at hz ⊢; omega
      have hf' : ∀ g ∈ fs, env.kindOf g = some .local ∧ (g == ("__debug__" : Str)) = false ∧ findIn K (.ref C) g = some none := fun g hg => hf g (List.mem_cons_of_mem _ hg)
      have hm' : ∀ p ∈ fs.zip us, m p.1 = some p.2 := fun p hp => hm p (by show p ∈ (f, u) :: fs.zip us; exact List.mem_cons_of_mem _ hp)
      have er : (f :: fs).reverse ++ ns = fs.reverse ++ (f :: ns) := by simp
      cases d with
      | none =>
        obtain ⟨hx, rfl, rfl⟩ := hP
        refine set_plain X (ox := excO C t1) (od := none) ⟨hx, rfl, rfl, trivial⟩ T.sa ?_
        refine exc_osa X hx hcl (show refsVE (.ref C :: bm) = true from hbm) rfl hf3 (fun h3 tk3 dx k3' dn dne hx3 hn3 => ?_)
        have keepL : h3.Ns L m := by
          obtain ⟨oL, es, ep, hoL, rr⟩ := hn
          exact ⟨oL, es, ep, k3' _ _ hLx hoL, rr⟩
        refine ih us ⟨h3, g, dr, tk3, os⟩ (some dx) _ [f] hl' hz' hf' hm' ?_ ?_ keepL ⟨Nat.lt_of_lt_of_le hsz dn, dne, hx3, hn3, ?_⟩ ?_
        · exact Nat.lt_trans (Nat.lt_of_lt_of_le hsz dn) (ns1_lt hn3)
        · exact kept_but X hnx k3'
        · exact Within.cons f u (fun y hy => absurd rfl hy)
        · intro h4 tk4 d4 kk e1 e2 e3 hP4
          refine hq h4 tk4 d4 (fun b o hb h0 h1 => kk b o hb h0 (k3' b o hb h1)) (fun z => by cases z) (fun z h => by cases h) (fun _ z => by rw [e2 dx rfl] at z; cases z) ?_
          rw [er]
          exact hP4
      | some dx =>
        obtain ⟨hdx, dne, hx, hns, hw⟩ := hP
        obtain ⟨oD, esD, epD, hoD, rD⟩ := id hns
        refine set_plain X (ox := { cls := .ref C, dict := some dx, data := .fields #[.ref t1, .none, .none, .none, .bool false, .none] }) (od := some oD) ⟨hx, rfl, rfl, hoD⟩ T.sa ?_
        refine PySem.OEX.osa_old X hx hns hw (by simp only [List.length_cons] at hz; omega) hcl (show refsVE (.ref C :: bm) = true from hbm) rfl hf3 (fun h3 tk3 k3' hn3 => ?_)
        have keepL : h3.Ns L m := by
          obtain ⟨oL, es, ep, hoL, rr⟩ := hn
          exact ⟨oL, es, ep, k3' _ _ (hL0 dx hdx) hoL, rr⟩
        have hdK : K.lookup dx = none := by
          cases e : K.lookup dx with
          | none => rfl
          | some o => exact absurd (hKl _ _ e) (Nat.not_lt.mpr (Nat.le_of_lt hdx))
        refine ih us ⟨h3, g, dr, tk3, os⟩ (some dx) _ (f :: ns) hl' hz' hf' hm' ?_ ?_ keepL ⟨hdx, dne, k3' _ _ (Ne.symm dne) hx, hn3, ?_⟩ ?_
        · exact Nat.lt_trans hdx (ns1_lt hn3)
        · exact kept_but X hdK k3'
        · exact Within.cons f u hw
        · intro h4 tk4 d4 kk e1 e2 e3 hP4
          refine hq h4 tk4 d4 (fun b o hb h0 h1 => kk b o hb h0 (k3' b o (fun z => ?_) h1)) (fun z => by cases z) (fun z h => by cases h; exact e2 dx rfl) (fun _ z => by rw [e2 dx rfl] at z; cases z) ?_
          · rw [z] at h0
            exact absurd (Heap.lt_size h0) (Nat.not_lt.mpr (Nat.le_of_lt hdx))
          · rw [er]
            exact hP4
theorem lookup_mem {k : Str} {v : Value} : ∀ {l : List (Str × Value)}, (l.map (·.1)).Nodup → (k, v) ∈ l → l.lookup k = some v
  | [], _, h => by cases h
  | (a, b) :: l, hn, h => by
    rcases List.mem_cons.mp h with e | h
    · cases e
      simp [List.lookup]
    · have hne : (k == a) = false := by
        have h1 : a ∉ l.map (·.1) := (List.nodup_cons.mp hn).1
        have h2 : k ≠ a := fun z => h1 (by rw [← z]; exact List.mem_map.mpr ⟨_, h, rfl⟩)
        simpa using h2
      simp only [List.lookup, hne]
      exact lookup_mem (List.nodup_cons.mp hn).2 h
theorem lookup_rev {k : Str} {v : Value} {l : List (Str × Value)} (hn : (l.map (·.1)).Nodup) (h : (k, v) ∈ l) : l.reverse.lookup k = some v :=
  lookup_mem (by rw [List.map_reverse]; exact List.pairwise_reverse.mpr (hn.imp fun h => Ne.symm h)) (List.mem_reverse.mpr h)
/-- what the text of the __init__ is -/
structure IS (q : Str) (params : Arguments) (body : List Stmt) (scope : Scope) (fs : List Str) : Prop where
  bd : ∃ (text : Str) (j : Nat) (p0 p1 p2 p3 p4 p5 : Pos) (ss : List Stmt), body = supS text j p0 p1 p2 p3 p4 p5 :: ss ∧ Sets fs ss ∧
    (∀ (L fI cda cc : Addr), (∃ pl : Sem Bool, eval (.Call (.Attribute (.Call (.Name "super" p0) [] [] p1) "__init__" p2) [.Constant (.str text) j p3] [] p4) (ksEnv q scope L fI (.ref cda) cc) = (do
      let ov ← attributeBase (.Call (.Name "super" p0) [] [] p1) "__init__" (ksEnv q scope L fI (.ref cda) cc) (eval (.Call (.Name "super" p0) [] [] p1) (ksEnv q scope L fI (.ref cda) cc))
      standAt p2.atName
      let (f, first) ← holding [ov] (getMethod ov "__init__" pl)
      callWith p4 f first (backTo p4 (starEach [.Constant (.str text) j p3] (ksEnv q scope L fI (.ref cda) cc))) [])) ∧
      interactive (ksEnv q scope L fI (.ref cda) cc) = false ∧ swapsWith (.Call (.Attribute (.Call (.Name "super" p0) [] [] p1) "__init__" p2) [.Constant (.str text) j p3] [] p4) none p5.line (ksEnv q scope L fI (.ref cda) cc) = pure false)
  bind : ∀ (kV doc pm : Value) (an : Option Addr) (cda : Addr) (ct : Value) (cc : Addr) (us : List Value), us.length = ("self" :: fs : List Str).length → bindArgs (ksFn "__init__" q params body scope .none kV doc pm an (.ref cda) ct cc) ⟨us, []⟩ = pure (("self" :: fs : List Str).zip us)
  hd : ∃ ar : Arg, (params.posonlyargs ++ params.args).head? = some ar ∧ ar.arg = "self"
  nd : ("self" :: fs : List Str).Nodup
  loc : ∀ f ∈ ("self" :: fs : List Str), scope.names.lookup f = some .local ∧ (f == ("__debug__" : Str)) = false
  cell : ∀ x ∈ scope.names, x.2 ≠ .cell
  co : scope.isCoroutine = false
  gen : scope.isGenerator = false
  k : scope.kind = .function
  hks : scope.names.lookup ("super" : Str) = some .globalImplicit
  hkc : scope.names.lookup ("__class__" : Str) = some .free
  few : fs.length ≤ 900
  some_ : fs ≠ []
theorem err_init {R : Result → Shared → Prop} {s : Shared} {fI : Addr} {q : Str} {params : Arguments} {body : List Stmt} {scope : Scope} {fs : List Str} {mg mb : Str → Option Value} (T : ErC prog K C fI q params body scope) (S : IS q params body scope fs) (hno : ∀ f ∈ fs, findIn K (.ref C) f = some none) {x t0 : Addr} {us : List Value} (X : K.In s.heap) (hlim : s.heap.NoLimit)
    (hx : s.heap.get? x = some (excO C t0)) (hnx : K.lookup x = none) (G : s.heap.Ns mainGlobals mg) (Gb : s.heap.Ns builtinsNs mb) (hb : mb "super" = bootBuiltins "super") (hroom : A.depth < recursionLimit) (hl : us.length = fs.length)
    (hq : ∀ h' tk t1 d, (∀ b o, b ≠ x → s.heap.get? b = some o → h'.get? b = some o) → PartE s.heap h' x C t1 (putM fs us (fun _ => none)) (fs.reverse ++ []) (some d) → R (.ok (.ret .none)) { s with heap := h', toks := tk }) :
    codeAny (model prog w) A (.call (.ref fI) ⟨.ref x :: us, []⟩) R s := by
  obtain ⟨oc, od, kV, doc, pm, an, cda, ct, cc, osl, ccl, cdd, vs, ccs, file, tf, cl, cld, csl, lf, hcd, lc, hvs, hfile, lcc⟩ := T.fn
  obtain ⟨text, j, p0, p1, p2, p3, p4, p5, ss, eb, hss, hev⟩ := S.bd
  obtain ⟨ar, har, earg⟩ := S.hd
  have hKl : ∀ a o, K.lookup a = some o → a < s.heap.objs.size := fun a o e => Heap.lt_size (X _ _ e)
  have hkeys : ((("self" :: fs : List Str).zip (.ref x :: us)).map (·.1)).Nodup := by
    rw [List.map_fst_zip (by show fs.length + 1 ≤ us.length + 1; omega)]
    exact S.nd
  obtain ⟨⟨pl, he⟩, hi, hsw⟩ := hev s.heap.objs.size fI cda cc
  have hmg : mg "super" = none := PySem.W.mg_none_of X G T.sg
  refine ks_codeAny_call_defAt (fd := ksFn "__init__" q params body scope .none kV doc pm an (.ref cda) ct cc) (body := body) (binds := ("self" :: fs : List Str).zip (.ref x :: us)) hroom (X _ _ lf) rfl hlim (codeRec_of X hcd) rfl
    (BindsTo.of_eq (S.bind _ _ _ _ _ _ _ _ (by show us.length + 1 = fs.length + 1; omega))) S.cell (fun y hy => (S.loc y.1 (by
      obtain ⟨y1, y2⟩ := y
      exact (List.of_mem_zip hy).1)).1) (fun h₁ hns hk₁ => ?_) S.co S.gen S.k
  have X₁ : K.In h₁ := X.keeps hk₁
  have hself : (("self" :: fs : List Str).zip (Value.ref x :: us)).reverse.lookup ("self" : Str) = some (Value.ref x) := lookup_rev hkeys (by show _ ∈ (("self" : Str), Value.ref x) :: fs.zip us; exact List.mem_cons_self ..)
  show _root_.PySem.wpAt _ _ (.func body (ksEnv q scope s.heap.objs.size fI (.ref cda) cc)) (execs body (ksEnv q scope s.heap.objs.size fI (.ref cda) cc)) _ _ _
  subst eb
  refine ks_wpAt_execs_cons ?_
  refine sup_stmt T lf lc hvs hfile lcc X₁ (G.at fun o q => hk₁ _ _ q) hmg (Gb.at fun o q => hk₁ _ _ q) hb hns (ar := ar) (by rw [earg]; exact hself) (hk₁ _ _ hx) har S.hks S.hkc (by rw [earg]; exact (S.loc "self" (List.mem_cons_self ..)).1) S.k he hi hsw (fun h2 tk2 t1 hns2 k2 hx2 => ?_)
  refine wpAt_of_wpAny ?_
  have L1 : s.heap.objs.size < h₁.objs.size := hns.lt
  refine sets_run (env := ksEnv q scope s.heap.objs.size fI (.ref cda) cc) (h0 := s.heap) T.x S.k rfl (S.loc "self" (List.mem_cons_self ..)).1 hself (Nat.ne_of_gt (Heap.lt_size hx)) hnx hKl (fun dx h => Nat.ne_of_lt h) hss us _ none (fun _ => none) [] hl (by simpa using S.few) (fun f hf => ⟨(S.loc f (List.mem_cons_of_mem _ hf)).1, (S.loc f (List.mem_cons_of_mem _ hf)).2, hno f hf⟩)
    (fun p hp => lookup_rev hkeys (by show p ∈ (("self" : Str), Value.ref x) :: fs.zip us; exact List.mem_cons_of_mem _ hp)) ?_ (kept_but X₁ hnx k2) hns2 ⟨hx2, rfl, rfl⟩ ?_
  · exact hns2.lt
  · intro h' tk d' kk e1 e2 e3 hP
    cases d' with
    | none => exact absurd rfl (e3 S.some_)
    | some d => exact hq h' tk t1 d (fun b o hb h0 => kk b o hb h0 (k2 b o hb (hk₁ b o h0))) hP
/-- C(u, ..): what is left -/
structure Made (h h' : Heap) (e C d : Addr) (mA : Str → Option Value) : Prop where
  keep : ∀ b o, h.get? b = some o → h'.get? b = some o
  new : h.objs.size ≤ e
  obj : ∃ oe vs, h'.get? e = some oe ∧ oe.cls = .ref C ∧ oe.dict = some d ∧ oe.data = .fields vs ∧ vs[1]? = some .none ∧ vs[2]? = some .none ∧ 4 < vs.size
  dbig : h.objs.size ≤ d
  dne : d ≠ e
  ns : h'.Ns1 d mA
theorem err_made {R : Result → Shared → Prop} {s : Shared} {fI : Addr} {q : Str} {params : Arguments} {body : List Stmt} {scope : Scope} {fs : List Str} {mg mb : Str → Option Value} (T : ErC prog K C fI q params body scope) (S : IS q params body scope fs) (hno : ∀ f ∈ fs, findIn K (.ref C) f = some none) {us : List Value} (X : K.In s.heap) (hlim : s.heap.NoLimit)
    (G : s.heap.Ns mainGlobals mg) (Gb : s.heap.Ns builtinsNs mb) (hb : mb "super" = bootBuiltins "super") (hroom : A.depth + 1 < recursionLimit) (hl : us.length = fs.length)
    (hq : ∀ h' tk e d, Made s.heap h' e C d (putM fs us (fun _ => none)) → R (.ok (.ret (.ref e))) { s with heap := h', toks := tk }) :
    codeAny (model prog w) A (.call (.ref C) ⟨us, []⟩) R s := by
  obtain ⟨nm, qn, N, bs, bm, sn, sub, ab, col, dd, k0, k1, k2, k3, k5, hC, hbm⟩ := T.x.cls
  obtain ⟨hp, g, dr, tk, os⟩ := s
  have k : ∀ b o, hp.get? b = some o → ((hp.push (kdv_tup us)).push (excO C hp.objs.size)).get? b = some o := fun b o e => Heap.get?_push_of_some _ (Heap.get?_push_of_some _ e)
  have hget : ((hp.push (kdv_tup us)).push (excO C hp.objs.size)).get? (hp.objs.size + 1) = some (excO C hp.objs.size) := by heap_get
  have hnx : K.lookup (hp.objs.size + 1) = none := by
    cases e : K.lookup (hp.objs.size + 1) with
    | none => rfl
    | some o =>
      have z : hp.get? (hp.objs.size + 1) = some o := X _ _ e
      exact absurd (Nat.lt_of_succ_lt (Heap.lt_size z)) (Nat.lt_irrefl _)
  refine call_own PySem.F.excBase_ValueError (fun X => refsVE_contains X bm hbm) (X _ _ hC) (looks_findIn X T.iC) (fun self => bind_fn X self T.tC) (by rw [hl, sizeLine_eq]; exact Nat.le_trans S.few (by decide)) ?_
  refine err_init (s := ⟨(hp.push (kdv_tup us)).push (excO C hp.objs.size), g, dr, tk, os⟩) T S hno (X.keeps k) (hlim.keeps k) hget hnx (G.at fun o q => k _ _ q) (Gb.at fun o q => k _ _ q) hb ?_ hl fun h' tk' t1 d k' hP => ?_
  · show A.depth + 1 < recursionLimit
    exact hroom
  · obtain ⟨hd, dne, hx, hns, _⟩ := hP
    have old : ∀ b o, hp.get? b = some o → h'.get? b = some o := fun b o e => k' b o (Nat.ne_of_lt (Nat.lt_succ_of_lt (Heap.lt_size e))) (k b o e)
    have z : hp.objs.size + 1 + 1 < d := by
      have q := hd
      first
        | (simpa only [Heap.size_push] using q)
        | exact q
    have z2 : hp.objs.size ≤ d := by omega
    exact ⟨rfl, hq h' tk' (hp.objs.size + 1) d ⟨old, Nat.le_succ _, ⟨_, _, hx, rfl, rfl, rfl, rfl, rfl, Nat.lt_succ_of_lt (Nat.lt_succ_self 4)⟩, z2, dne, hns⟩⟩
end
end OwnE
end PySem
namespace Gl
open PySem PySem.Spec PyProof.Rows L2
open PySem.OwnE (ErC IS putM)
/-- an error's dict: the fields, stored one behind another -/
def putL : List Str → List V → List (Str × V) → List (Str × V)
  | f :: fs, v :: vs, l => putL fs vs ((f, v) :: l)
  | _, _, l => l
theorem relO_putL : ∀ {fs : List Str} {vs : List V} {us : List Value} {l : List (Str × V)} {mA : Str → Option Value}, Vals vs us → (∀ g, RelO (l.lookup g) (mA g)) → ∀ g, RelO ((putL fs vs l).lookup g) (putM fs us mA g)
  | [], _, _, _, _, _, h => by
    intro g
    unfold putL putM
    exact h g
  | f :: fs, _, _, l, mA, .nil, h => by
    intro g
    unfold putL putM
    exact h g
  | f :: fs, _, _, l, mA, .cons r rs, h => relO_putL (fs := fs) rs (relO_put r h)
/-- C(e, ..) of an own error class: its dict is new -/
def tErr (C : Addr) (fs : List Str) (ta : TA) : L2.St → Hp → XK → Prop := fun σ H Q => ta σ H fun vs H1 => vs.length = fs.length ∧ ∀ d, H1 d = none → Q (.ref C) (some d) (upd H1 d (.xd (putL fs vs [])))
end Gl
namespace Gl
open PySem PySem.Spec PyProof.Rows L2
open PySem.OwnE (ErC IS putM)
open He (ga ma)
/-! ## own errors: what the head says of them -/
def ccOf (K : PySem.W.Frag) (x : Str) : Addr := match K.lookup (ma K (ga K x) "__init__") with
  | some ⟨_, _, .func fd, _⟩ => (match fd.closure with
    | [p] => p.2
    | _ => 0)
  | _ => 0
def clsE (K : PySem.W.Frag) (C : Addr) : Bool := match K.lookup C with
  | some ⟨.type t, _, .cls cd, sl⟩ => decide (t = "type") && ((match cd.mro, sl.toList with
    | .ref C' :: bm, [_, _, _, _, some (.builtin n), _] => decide (C' = C) && (decide (n = "ValueError.__new__") && (!cd.hasDel && (cd.hasDict && PySem.HandSPX.refsVE bm)))
    | _, _ => false))
  | _ => false
theorem clsE_ok {K : PySem.W.Frag} {C : Addr} (h : clsE K C = true) : ∃ nm q N bs bm sn sub ab col dd k0 k1 k2 k3 k5, K.lookup C = some (excClassObj nm q C N bs bm true sn sub ab col dd k0 k1 k2 k3 k5 "ValueError.__new__") ∧ PySem.HandSPX.refsVE bm = true := by
  unfold clsE at h
  split at h
  · rename_i t dd cd sl ho
    obtain ⟨h0, h⟩ := He.ba h
    split at h
    · rename_i C' bm k0 k1 k2 k3 n k5 hm hs
      obtain ⟨h1, h⟩ := He.ba h
      obtain ⟨h2, h⟩ := He.ba h
      obtain ⟨h3, h⟩ := He.ba h
      obtain ⟨h4, h5⟩ := He.ba h
      have e1 := of_decide_eq_true h1
      have e2 := of_decide_eq_true h2
      have e0 := of_decide_eq_true h0
      subst e1 e2 e0
      obtain ⟨nm, bs, mro, ns, qn, hd, sn, sub, ab, col, del⟩ := cd
      dsimp only at hm h3 h4
      have h3' : del = false := by simpa using h3
      subst hm h3' h4
      have hsl : sl = #[k0, k1, k2, k3, some (.builtin "ValueError.__new__"), k5] := by
        obtain ⟨l⟩ := sl
        simp only at hs
        rw [hs]
      subst hsl
      exact ⟨_, _, _, _, _, _, _, _, _, _, _, _, _, _, _, ho, h5⟩
    · cases h
  · cases h
def fnE (P : Program) (K : PySem.W.Frag) (x q : Str) : Bool := match K.lookup (ma K (ga K x) "__init__") with
  | some ⟨_, _, .func fd, _⟩ => PySem.W.codeIn K fd.code q && ((decide (fd.defaults = .none)) && (match fd.code with
    | .ref cda => (match K.lookup cda with
      | some ⟨_, _, .fields vs, _⟩ => (match (vs[2]? : Option Value) with
        | some (Value.str file _) => ((P.main.file : Str) == file)
        | _ => false)
      | _ => false)
    | _ => false) && (match K.lookup (ccOf K x) with
      | some ⟨_, _, .cell (some (.ref D)), _⟩ => decide (D = ga K x)
      | _ => false))
  | _ => false
def errB (P : Program) (K : PySem.W.Frag) (x q : Str) (fs : List Str) : Bool :=
  clsE K (ga K x) && (He.eqO (PySem.W.findIn K (.ref (ga K x)) "__setattr__") (some (some (.builtin "object.__setattr__"))) && (decide (PySem.W.subIn K (.ref (ga K x)) (.type "BaseException") = some true) && (decide (PySem.W.typeIn K (.ref (ga K x)) = some (.type "type")) && (PySem.W.keepIn K (.ref (ga K x)) &&
  (He.eqO (PySem.W.findIn K (.ref (ga K x)) "__init__") (some (some (.ref (ma K (ga K x) "__init__")))) && (decide (PySem.W.typeIn K (.ref (ma K (ga K x) "__init__")) = some (.type "function")) && (He.eqO (PySem.W.ks_superIn K (ga K x) (ga K x) "__init__") (some (some (.builtin "ValueError.__init__"))) &&
  (decide (PySem.W.subIn K (.ref (ga K x)) (.type "ValueError") = some true) && (decide (PySem.W.mroIn K (ga K x) (.ref (ga K x)) = some true) && (He.eqO (PySem.W.nsIn K cStatics "thirdparty.any") (some none) && (He.eqO (PySem.W.nsIn K mainGlobals "super") (some none) && (!(P.main.scope.names.lookup ("super" : Str)).isSome &&
  (fs.all (fun f => He.eqO (PySem.W.findIn K (.ref (ga K x)) f) (some none)) && (fnE P K x q &&
  (He.eqO (PySem.W.findIn K (.ref (ga K x)) "__getattribute__") (some (some (.builtin "BaseException.__getattribute__"))) && (He.eqO (PySem.W.findIn K (.ref (ga K x)) "__getattr__") (some none) && (PySem.W.hasDictIn K (ga K x) && He.eqO (PySem.W.nsIn K mainGlobals x) (some (some (.ref (ga K x)))))))))))))))))))))
/-- what is known of the own error class x -/
structure Er (P : Program) (K : PySem.W.Frag) (mg : Str → Option Value) (x q : Str) (params : Arguments) (body : List Stmt) (scope : Scope) (fs : List Str) : Prop where
  c : ErC P K (ga K x) (ma K (ga K x) "__init__") q params body scope
  no : ∀ f ∈ fs, PySem.W.findIn K (.ref (ga K x)) f = some none
  xf : XfC K (ga K x)
  g : mg x = some (.ref (ga K x))
  k : PySem.W.keepIn K (.ref (ga K x)) = true
theorem er_ok {P : Program} {K : PySem.W.Frag} {h : Heap} {mg : Str → Option Value} {x q : Str} {params : Arguments} {body : List Stmt} {scope : Scope} {fs : List Str} (X : K.In h) (G : h.Ns mainGlobals mg) (c : errB P K x q fs = true)
    (e : He.fnW K (x, some "__init__") = some (("__init__" : Str), q, params, FuncBody.stmts body, scope, mainGlobals, [(("__class__" : Str), ccOf K x)], builtinsNs)) : Er P K mg x q params body scope fs := by
  unfold errB at c
  obtain ⟨c1, c⟩ := He.ba c
  obtain ⟨c2, c⟩ := He.ba c
  obtain ⟨c3, c⟩ := He.ba c
  obtain ⟨c4, c⟩ := He.ba c
  obtain ⟨c5, c⟩ := He.ba c
  obtain ⟨c6, c⟩ := He.ba c
  obtain ⟨c7, c⟩ := He.ba c
  obtain ⟨c8, c⟩ := He.ba c
  obtain ⟨c9, c⟩ := He.ba c
  obtain ⟨c10, c⟩ := He.ba c
  obtain ⟨c11, c⟩ := He.ba c
  obtain ⟨c12, c⟩ := He.ba c
  obtain ⟨c13, c⟩ := He.ba c
  obtain ⟨c14, c⟩ := He.ba c
  obtain ⟨c15, c⟩ := He.ba c
  obtain ⟨c16, c⟩ := He.ba c
  obtain ⟨c17, c⟩ := He.ba c
  obtain ⟨c18, c19⟩ := He.ba c
  have d3 := of_decide_eq_true c3
  have d4 := of_decide_eq_true c4
  refine ⟨⟨⟨clsE_ok c1, He.eqO_ok c2, d3, d4, c5⟩, He.eqO_ok c6, of_decide_eq_true c7, He.eqO_ok c8, of_decide_eq_true c9, of_decide_eq_true c10, He.eqO_ok c11, He.eqO_ok c12, by simpa using c13, ?_⟩,
    fun f hf => He.eqO_ok (List.all_eq_true.mp c14 f hf), ⟨He.eqO_ok c16, He.eqO_ok c17, d3, c18⟩, PySem.W.mg_of X G (He.eqO_ok c19), c5⟩
  unfold fnE at c15
  unfold He.fnW at e
  have ea : He.fAd K (x, some "__init__") = ma K (ga K x) "__init__" := rfl
  rw [ea] at e
  cases hl : K.lookup (ma K (ga K x) "__init__") with
  | none =>
    rw [hl] at e
    cases e
  | some o =>
    obtain ⟨oc, od, dt, osl⟩ := o
    rw [hl] at c15 e
    cases dt with
    | func fd =>
      obtain ⟨n1, n2, n3, n4, n5, n6, n7, n8, n9, n10, n11, n12, n13, n14, n15⟩ := fd
      have e2 : (some (n1, n2, n3, n4, n5, n6, n7, n15) : He.FnW) = some (("__init__" : Str), q, params, FuncBody.stmts body, scope, mainGlobals, [(("__class__" : Str), ccOf K x)], builtinsNs) := e
      simp only [Option.some.injEq, Prod.mk.injEq] at e2
      obtain ⟨h1, h2, h3, h4, h5, h6, h7, h8⟩ := e2
      subst h1 h2 h3 h4 h5 h6 h7 h8
      dsimp only at c15
      obtain ⟨k1, k2⟩ := He.ba c15
      obtain ⟨k3, k4⟩ := He.ba k2
      obtain ⟨k0, k3⟩ := He.ba k3
      have k0 : n8 = Value.none := of_decide_eq_true k0
      subst k0
      cases n13 with
      | ref cda =>
        dsimp only at k3
        cases hc : K.lookup cda with
        | none =>
          rw [hc] at k3
          cases k3
        | some oc2 =>
          obtain ⟨ccl, cdd, cdt, ccs⟩ := oc2
          rw [hc] at k3
          cases cdt with
          | fields vs =>
            dsimp only at k3
            cases hv : vs[2]? with
            | none =>
              rw [hv] at k3
              cases k3
            | some v =>
              rw [hv] at k3
              cases v with
              | str file tf =>
                cases hcc : K.lookup (ccOf K x) with
                | none =>
                  rw [hcc] at k4
                  cases k4
                | some o3 =>
                  obtain ⟨cl, cld, cdt3, csl⟩ := o3
                  rw [hcc] at k4
                  cases cdt3 with
                  | cell u =>
                    cases u with
                    | none => cases k4
                    | some u =>
                      cases u with
                      | ref D =>
                        have eD : D = ga K x := of_decide_eq_true k4
                        rw [eD] at hcc
                        exact ⟨oc, od, n9, n10, n11, n12, cda, n14, ccOf K x, osl, ccl, cdd, vs, ccs, file, tf, cl, cld, csl, rfl, k1, hc, hv, k3, hcc⟩
                      | _ => cases k4
                  | _ => cases k4
              | _ => cases k3
          | _ => cases k3
      | _ => cases k3
    | _ => cases c15
end Gl
namespace Gl
open PySem PySem.Spec PyProof.Rows L2
/-! ## options as data -/
/-- a datum that is not None -/
class NotNone {α : Type} {A : R α} (D : Dat A) : Prop where
  l : ∀ a, PyData.eqv (D.d a) .none = false
  r : ∀ a, PyData.eqv .none (D.d a) = false
instance : NotNone dI := ⟨fun _ => rfl, fun _ => rfl⟩
instance : NotNone dB := ⟨fun _ => rfl, fun _ => rfl⟩
instance : NotNone dS := ⟨fun _ => rfl, fun _ => rfl⟩
instance {α : Type} {A : R α} {D : Dat A} : NotNone (dL D) := ⟨fun _ => rfl, fun _ => rfl⟩
instance {α : Type} {A : R α} {D : Dat A} : NotNone (dT D) := ⟨fun _ => rfl, fun _ => rfl⟩
instance {α β : Type} {A : R α} {B : R β} {D : Dat A} {E : Dat B} : NotNone (d2 D E) := ⟨fun _ => rfl, fun _ => rfl⟩
def dO {α : Type} {A : R α} (D : Dat A) [N : NotNone D] : Dat (qO A) := ⟨fun
    | none => .none
    | some a => D.d a, fun {K F v a} h => by
    cases a with
    | none => cases (show v = .non from h); exact .non
    | some a => exact D.dp h, fun a b => by
    cases a with
    | none => cases b with
      | none => simp [PyData.eqv]
      | some b =>
        show PyData.eqv .none (D.d b) = true ↔ _
        rw [N.r b]; simp
    | some a => cases b with
      | none =>
        show PyData.eqv (D.d a) .none = true ↔ _
        rw [N.l a]; simp
      | some b =>
        show PyData.eqv (D.d a) (D.d b) = true ↔ _
        rw [D.eq]; simp⟩

/-! ## patterns -/
inductive Pat where
  | form (ps : List Str) | both (l r : Pat) | either (l r : Pat)
  deriving DecidableEq
def Pat.forms : Pat → List (List Str)
  | .form ps => [ps]
  | .both l r => l.forms ++ r.forms
  | .either l r => l.forms ++ r.forms
def Pat.ht : Pat → Nat
  | .form _ => 0
  | .both l r => max l.ht r.ht + 1
  | .either l r => max l.ht r.ht + 1
def isaB (K : PySem.W.Frag) (x y : Str) (b : Bool) : Bool := decide (PySem.W.kitOne K (.ref (He.ga K x)) (.ref (He.ga K y)) = some b)
theorem isaB_ok {K : PySem.W.Frag} {x y : Str} {b : Bool} (h : isaB K x y b = true) : PySem.W.kitOne K (.ref (He.ga K x)) (.ref (He.ga K y)) = some b := of_decide_eq_true h

def qForm : R (List Str) := ⟨fun K F v a => ∃ (p dx : Addr) (u0 : V), v = .ref p ∧ F p = some (.ins (He.ga K "Form") dx [("pieces", u0)]) ∧ (qT qS).r K F u0 a, fun e ⟨p, dx, u0, h1, h2, k0⟩ => ⟨p, dx, u0, h1, e _ _ h2, (qT qS).mono e k0⟩⟩
def qPatR (K : PySem.W.Frag) (F : Hp) : V → Pat → Prop
  | v, .form ps => qForm.r K F v ps
  | v, .both l r => ∃ (p dx : Addr) (u w : V), v = .ref p ∧ F p = some (.ins (He.ga K "Both") dx [("left", u), ("right", w)]) ∧ qPatR K F u l ∧ qPatR K F w r
  | v, .either l r => ∃ (p dx : Addr) (u w : V), v = .ref p ∧ F p = some (.ins (He.ga K "Either") dx [("left", u), ("right", w)]) ∧ qPatR K F u l ∧ qPatR K F w r
theorem qPatR_mono {K : PySem.W.Frag} {F F' : Hp} (e : Same F F') : ∀ {v : V} {a : Pat}, qPatR K F v a → qPatR K F' v a
  | _, .form _, h => qForm.mono e h
  | _, .both _ _, ⟨p, dx, u, w, h1, h2, h3, h4⟩ => ⟨p, dx, u, w, h1, e _ _ h2, qPatR_mono e h3, qPatR_mono e h4⟩
  | _, .either _ _, ⟨p, dx, u, w, h1, h2, h3, h4⟩ => ⟨p, dx, u, w, h1, e _ _ h2, qPatR_mono e h3, qPatR_mono e h4⟩
def qPat : R Pat := ⟨fun K F v a => qPatR K F v a, fun e h => qPatR_mono e h⟩
def Pat.cls : Pat → Str
  | .form _ => "Form"
  | .both _ _ => "Both"
  | .either _ _ => "Either"
def isPatC (x : Str) : Prop := x = "Form" ∨ x = "Both" ∨ x = "Either"
theorem qPat_ins {K : PySem.W.Frag} {F H : Hp} {v : V} {a : Pat} (r : qPat.r K F v a) (s : Same F H) : ∃ p dx fs, v = .ref p ∧ H p = some (.ins (He.ga K a.cls) dx fs) ∧ ∀ m : Str, m ≠ "pieces" → m ≠ "left" → m ≠ "right" → fs.lookup m = none := by
  cases a with
  | form ps =>
    obtain ⟨p, dx, u0, h1, h2, _⟩ := (show qForm.r K F v ps from r)
    exact ⟨p, dx, _, h1, s _ _ h2, fun m n1 n2 n3 => by simp [List.lookup, beq_eq_false_iff_ne.mpr n1]⟩
  | both l r' =>
    obtain ⟨p, dx, u, w, h1, h2, _⟩ := (show qPatR K F v (.both l r') from r)
    exact ⟨p, dx, _, h1, s _ _ h2, fun m n1 n2 n3 => by simp [List.lookup, beq_eq_false_iff_ne.mpr n2, beq_eq_false_iff_ne.mpr n3]⟩
  | either l r' =>
    obtain ⟨p, dx, u, w, h1, h2, _⟩ := (show qPatR K F v (.either l r') from r)
    exact ⟨p, dx, _, h1, s _ _ h2, fun m n1 n2 n3 => by simp [List.lookup, beq_eq_false_iff_ne.mpr n2, beq_eq_false_iff_ne.mpr n3]⟩
structure InsF (K : PySem.W.Frag) (C : Addr) : Prop where
  ha : PySem.W.findIn K (.ref C) "__class__" = some (some (.builtin "object.__class__"))
  hn : PySem.W.specialIn K (.builtin "object.__class__") "__get__" = some (some (.builtin "getset_descriptor.__get__"))
  htk : PySem.W.takesIn K (.builtin "object.__class__") = some true
  hm : PySem.W.mroIn K C (.type "object") = some true
def insB (K : PySem.W.Frag) (C : Addr) : Bool := He.eqO (PySem.W.findIn K (.ref C) "__class__") (some (some (.builtin "object.__class__"))) && (decide (PySem.W.specialIn K (.builtin "object.__class__") "__get__" = some (some (.builtin "getset_descriptor.__get__"))) && (decide (PySem.W.takesIn K (.builtin "object.__class__") = some true) && decide (PySem.W.mroIn K C (.type "object") = some true)))
theorem insB_ok {K : PySem.W.Frag} {C : Addr} (h : insB K C = true) : InsF K C := by
  unfold insB at h
  obtain ⟨h1, h⟩ := He.ba h
  obtain ⟨h2, h⟩ := He.ba h
  obtain ⟨h3, h4⟩ := He.ba h
  exact ⟨He.eqO_ok h1, of_decide_eq_true h2, of_decide_eq_true h3, of_decide_eq_true h4⟩
/-! ## x is None -/
class NN {α : Type} (A : R α) : Prop where
  n : ∀ {K : PySem.W.Frag} {F : Hp} {v : V} {a : α}, A.r K F v a → v ≠ .non
instance : NN qI := ⟨fun h => by cases (show _ = V.int _ from h); exact fun z => nomatch z⟩
instance : NN qS := ⟨fun h => by cases (show _ = V.str _ from h); exact fun z => nomatch z⟩
instance : NN qB := ⟨fun h => by cases (show _ = V.bl _ from h); exact fun z => nomatch z⟩
instance {α : Type} {A : R α} : NN (qL A) := ⟨fun ⟨p, vs, h, _⟩ => by subst h; exact fun z => nomatch z⟩
instance {α : Type} {A : R α} : NN (qT A) := ⟨fun ⟨p, vs, h, _⟩ => by subst h; exact fun z => nomatch z⟩
instance {α β : Type} {A : R α} {B : R β} : NN (q2 A B) := ⟨fun ⟨p, u, w, h, _⟩ => by subst h; exact fun z => nomatch z⟩
instance {α β γ : Type} {A : R α} {B : R β} {C : R γ} : NN (q3 A B C) := ⟨fun ⟨p, u, w, z, h, _⟩ => by subst h; exact fun z => nomatch z⟩
instance : NN qForm := ⟨fun ⟨p, dx, u, h, _⟩ => by subst h; exact fun z => nomatch z⟩
instance : NN qPat := ⟨fun h => by obtain ⟨p, _, _, rfl, _⟩ := qPat_ins h (Same.refl _); exact fun z => nomatch z⟩
def rIsN0 : R2 := fun x y H Q => y = .non ∧ Q (.bl (decide (x = .non))) H
theorem op_isN' {X : Cx} : OpR X (compareOp .Is) rIsN0 := op_isN
section
variable {α : Type} {A : R α} {K : PySem.W.Frag} {F H : Hp} {v : V} {Q : VK} {a : Option α} {b : α}
theorem qO_non [N : NN A] (r : (qO A).r K F v a) : decide (v = .non) = a.isNone := by
  cases a with
  | none => cases (show v = .non from r); rfl
  | some a => exact decide_eq_false (N.n r)
theorem rd_isN [NN A] (r : (qO A).r K F v a) (k : Q (.bl a.isNone) H) : rIsN0 v .non H Q := ⟨rfl, by rw [qO_non r]; exact k⟩
end
end Gl
namespace Gl
open PySem PySem.Spec PyProof.Rows L2
/-- data of one kind, which can be put in order -/
class Ord1 {α : Type} {A : R α} (D : Dat A) where
  n : Nat
  al : ∀ a b, PySem.W.alike (D.d a) (D.d b) = true
  dep : ∀ a, (D.d a).depth ≤ n
class Ordd {α : Type} {A : R α} (D : Dat A) extends Ord1 D where
  srt : ∀ bs : List α, PySem.W.Sortable (bs.map D.d)
theorem depAllQ {α : Type} {A : R α} (D : Dat A) (n : Nat) (h : ∀ a, (D.d a).depth ≤ n) : ∀ xs : List α, PyData.depthAll (xs.map D.d) ≤ n
  | [] => by simp [PyData.depthAll]
  | x :: xs => by
    rw [List.map_cons, PyData.depthAll]
    exact Nat.max_le.mpr ⟨h x, depAllQ D n h xs⟩
theorem alAll {α : Type} {A : R α} (D : Dat A) [o : Ord1 D] : ∀ xs ys : List α, PySem.W.alikeAll (xs.map D.d) (ys.map D.d) = true
  | [], _ => by simp [PySem.W.alikeAll]
  | _ :: _, [] => by simp [PySem.W.alikeAll]
  | x :: xs, y :: ys => by
    rw [List.map_cons, List.map_cons, PySem.W.alikeAll, alAll D xs ys, o.al x y]; rfl
instance oI : Ordd dI where
  n := 0
  al := fun _ _ => rfl
  dep := fun _ => Nat.zero_le _
  srt := fun bs => PySem.W.Sortable.others fun b => ⟨(fun z => nomatch z), fun _ z => nomatch z⟩
instance oS : Ordd dS where
  n := 0
  al := fun _ _ => rfl
  dep := fun _ => Nat.zero_le _
  srt := fun bs => PySem.W.Sortable.others fun b => ⟨(fun z => nomatch z), fun _ z => nomatch z⟩
instance oB : Ordd dB where
  n := 0
  al := fun _ _ => rfl
  dep := fun _ => Nat.zero_le _
  srt := fun bs => PySem.W.Sortable.others fun b => ⟨(fun z => nomatch z), fun _ z => nomatch z⟩
instance oT {α : Type} {A : R α} {D : Dat A} [o : Ord1 D] : Ord1 (dT D) where
  n := o.n + 1
  al := fun a b => by
    show PySem.W.alike (.tuple (a.map D.d)) (.tuple (b.map D.d)) = true
    rw [PySem.W.alike]; exact alAll D a b
  dep := fun a => by
    show (PyData.tuple (a.map D.d)).depth ≤ _
    rw [PyData.depth]
    have := depAllQ D o.n o.dep a
    omega
instance oL {α : Type} {A : R α} {D : Dat A} [o : Ord1 D] : Ordd (dL D) where
  n := o.n + 1
  al := fun a b => by
    show PySem.W.alike (.list (a.map D.d)) (.list (b.map D.d)) = true
    rw [PySem.W.alike]; exact alAll D a b
  dep := fun a => by
    show (PyData.list (a.map D.d)).depth ≤ _
    rw [PyData.depth]
    have := depAllQ D o.n o.dep a
    omega
  srt := fun bs => PySem.W.Sortable.others fun b => ⟨(fun z => nomatch z), fun _ z => nomatch z⟩
instance o2 {α β : Type} {A : R α} {B : R β} {D : Dat A} {E : Dat B} [o : Ord1 D] [p : Ord1 E] : Ordd (d2 D E) where
  n := max o.n p.n + 1
  al := fun a b => by
    show PySem.W.alike (.tuple [D.d a.1, E.d a.2]) (.tuple [D.d b.1, E.d b.2]) = true
    simp [PySem.W.alike, PySem.W.alikeAll, o.al, p.al]
  dep := fun a => by
    show (PyData.tuple [D.d a.1, E.d a.2]).depth ≤ _
    have h1 := o.dep a.1
    have h2 := p.dep a.2
    simp only [PyData.depth, PyData.depthAll]
    omega
  srt := fun bs => PySem.W.Sortable.tuples fun b => ⟨_, _, rfl⟩
end Gl
namespace Gl
open PySem PySem.Spec PyProof.Rows L2
end Gl
namespace Gl
open PySem PySem.Spec PyProof.Rows L2
/-! ## rows of unlike things -/
structure RR (α : Type) where
  r : PySem.W.Frag → Hp → List V → α → Prop
  mono : ∀ {K : PySem.W.Frag} {F F' : Hp} {v : List V} {a : α}, Same F F' → r K F v a → r K F' v a
def f1 {α : Type} (A : R α) : RR α := ⟨fun K F vs a => ∃ u, vs = [u] ∧ A.r K F u a, fun e ⟨u, h1, h2⟩ => ⟨u, h1, A.mono e h2⟩⟩
def fc {α β : Type} (A : R α) (B : RR β) : RR (α × β) := ⟨fun K F vs a => ∃ u us, vs = u :: us ∧ A.r K F u a.1 ∧ B.r K F us a.2, fun e ⟨u, us, h1, h2, h3⟩ => ⟨u, us, h1, A.mono e h2, B.mono e h3⟩⟩
def qLr {α : Type} (B : RR α) : R α := ⟨fun K F v a => ∃ p vs, v = .ref p ∧ F p = some (.lst vs) ∧ B.r K F vs a, fun e ⟨p, vs, h1, h2, h3⟩ => ⟨p, vs, h1, e _ _ h2, B.mono e h3⟩⟩
def qTr {α : Type} (B : RR α) : R α := ⟨fun K F v a => ∃ p vs, v = .ref p ∧ SqT K F p vs ∧ B.r K F vs a, fun e ⟨p, vs, h1, h2, h3⟩ => ⟨p, vs, h1, same_t e h2, B.mono e h3⟩⟩
structure DatR {α : Type} (B : RR α) where
  d : α → List PyData
  dp : ∀ {K : PySem.W.Frag} {F : Hp} {v : List V} {a : α}, B.r K F v a → DpAll K F v (d a)
  eq : ∀ a b : α, PyData.eqvAll (d a) (d b) = true ↔ a = b
def e1 {α : Type} {A : R α} (D : Dat A) : DatR (f1 A) := ⟨fun a => [D.d a], fun ⟨u, h1, h2⟩ => by subst h1; exact .cons (D.dp h2) .nil, fun a b => by
  show (PyData.eqv (D.d a) (D.d b) && true) = true ↔ _
  rw [Bool.and_true, D.eq]⟩
def ec {α β : Type} {A : R α} {B : RR β} (D : Dat A) (E : DatR B) : DatR (fc A B) := ⟨fun a => D.d a.1 :: E.d a.2, fun ⟨u, us, h1, h2, h3⟩ => by subst h1; exact .cons (D.dp h2) (E.dp h3), fun a b => by
  show (PyData.eqv (D.d a.1) (D.d b.1) && PyData.eqvAll (E.d a.2) (E.d b.2)) = true ↔ _
  rw [Bool.and_eq_true, D.eq, E.eq]
  obtain ⟨a1, a2⟩ := a
  obtain ⟨b1, b2⟩ := b
  simp⟩
def dLr {α : Type} {B : RR α} (E : DatR B) : Dat (qLr B) := ⟨fun a => .list (E.d a), fun ⟨p, vs, h1, h2, h3⟩ => by subst h1; exact .lst (SqL.of h2) (E.dp h3), fun a b => E.eq a b⟩
def dTr {α : Type} {B : RR α} (E : DatR B) : Dat (qTr B) := ⟨fun a => .tuple (E.d a), fun ⟨p, vs, h1, h2, h3⟩ => by subst h1; exact .tup h2 (E.dp h3), fun a b => E.eq a b⟩
instance {α : Type} {B : RR α} : NN (qLr B) := ⟨fun ⟨p, vs, h, _⟩ => by subst h; exact fun z => nomatch z⟩
instance {α : Type} {B : RR α} : NN (qTr B) := ⟨fun ⟨p, vs, h, _⟩ => by subst h; exact fun z => nomatch z⟩
instance {α : Type} {B : RR α} {E : DatR B} : NotNone (dLr E) := ⟨fun _ => rfl, fun _ => rfl⟩
instance {α : Type} {B : RR α} {E : DatR B} : NotNone (dTr E) := ⟨fun _ => rfl, fun _ => rfl⟩
end Gl
namespace Gl
open PySem PySem.Spec PyProof.Rows L2
/-! ## a chain of ints -/
def chK (r' : R2) (tc : TE) (y : V) (σ : L2.St) (Q : VK) : VK := fun z H3 => ∃ k, z = .bl k ∧ (if k = true then tc σ H3 fun w' H4 => r' y w' H4 Q else Q (.bl false) H3)
theorem rd_chain {r r' : R2} {ta tb tc : TE} {σ : L2.St} {H : Hp} {Q : VK} (k : ta σ H fun x H1 => tb σ H1 fun y H2 => r x y H2 (chK r' tc y σ Q)) : tChain r r' ta tb tc σ H Q := k
theorem ch_at {r' : R2} {tc : TE} {y z : V} {σ : L2.St} {H : Hp} {Q : VK} {b c : Bool} (hc : ∀ Q' : VK, Q' z H → tc σ H Q') (hr : ∀ Q' : VK, Q' (.bl c) H → r' y z H Q') (k : Q (.bl (b && c)) H) : chK r' tc y σ Q (.bl b) H :=
  ⟨b, rfl, by
    cases b
    · exact k
    · exact hc _ (hr _ k)⟩
/-! ## built-in methods, the reading by K itself -/
section
variable {X : Cx} {K : PySem.W.Frag} {T id : String} {name : Str} {o e : Expr} {es : List Expr} {to : TE} {t : TA} {r : V → List V → Hp → VK → Prop} {apos cpos : Pos}
theorem pe_bmK (pa : PlainAttrs T) (slot : Slot T name id) (hty : typeOf (.builtin id) = pure (.type "method_descriptor")) (hm : MtR X id r) (ho : PE X o to) (ha : PA X (e :: es) t) (hK : X.K = K := by rfl)
    (hbase : attributeBase o name X.env (eval o X.env) = eval o X.env := by rfl)
    (hfew : ((backTo cpos (starEach (e :: es) X.env)).all (fun x => !x.1) && (backToKw cpos (keywordEach [] X.env)).all (fun x => x.1.isSome)
      && decide ((e :: es).length + ([] : List Keyword).length + (if ([] : List Keyword).isEmpty then 0 else 1) < 30)) = true := by rfl)
    (hline : (apos.endLine == cpos.line) = true := by rfl) (hs : starEach (e :: es) X.env = (false, eval e X.env) :: starEach es X.env := by rfl) (hplain : (backTo cpos (starEach es X.env)).any (·.1) = false := by rfl) :
    PE X (.Call (.Attribute o name apos) (e :: es) [] cpos) (tBM K T r to t) := by
  subst hK; exact pe_bm pa slot hty hm ho ha hbase hfew hline hs hplain
end
end Gl
namespace Gl
open PySem PySem.Spec PyProof.Rows L2
end Gl
namespace Gl
open PySem PySem.Spec PyProof.Rows L2
end Gl
namespace L2
open PySem PySem.Spec PyProof.Rows
end L2
namespace Gl
open PySem PySem.Spec PyProof.Rows L2
end Gl
namespace Gl
open PySem PySem.Spec PyProof.Rows L2
/-! ## the text of a pattern -/
def joinP (m x y : Str) : Str := Str.empty ++ ("(" : Str) ++ x ++ m ++ y ++ (")" : Str)
def joinPok (m x y : Str) : Bool := decide (x.length ≤ sizeLine) && decide (y.length ≤ sizeLine) && decide ((joinP m x y).length ≤ sizeLine)
def Pat.str : Pat → Option Str
  | .form a => gd (joinOk ("" : Str) a) (some (Txt.join ("" : Str) a))
  | .both l r => l.str.bind fun x => r.str.bind fun y => gd (joinPok (" & " : Str) x y) (some (joinP (" & " : Str) x y))
  | .either l r => l.str.bind fun x => r.str.bind fun y => gd (joinPok (" | " : Str) x y) (some (joinP (" | " : Str) x y))
end Gl
namespace Gl
open PySem PySem.Spec PyProof.Rows L2
section
variable {K : PySem.W.Frag} {P : Addr → Prop} {F0 H0 F H : Hp} {v u : V} {Q : VK}
/-! ## sorted(xs), tuples of which some may be empty -/
end
end Gl
namespace Gl
open PySem PySem.Spec PyProof.Rows L2 C8
open PySem.OwnE (ErC IS putM)
/-! ## own errors that are let out of defs and caught -/
/-- go on, or hand the error on -/
def exB {ε α β : Type} : Except ε α → (α → Option (Except ε β)) → Option (Except ε β)
  | .ok a, k => k a
  | .error e, _ => some (.error e)
theorem exB_ok {ε α β : Type} {a : α} {k : α → Option (Except ε β)} {r : Except ε β} (h : exB (.ok a) k = some r) : k a = some r := h
theorem exB_err {ε α β : Type} {t : Except ε α} {e : ε} {k : α → Option (Except ε β)} {r : Except ε β} (ee : t = .error e) (h : exB t k = some r) : r = .error e := by
  subst ee
  exact (Option.some.inj h).symm
/-- try: the clause's suite, or what follows -/
def exT {ε α β : Type} : Except ε α → (ε → Option β) → (α → Option β) → Option β
  | .ok a, _, k => k a
  | .error e, h, _ => h e
theorem exT_ok {ε α β : Type} {a : α} {k : α → Option β} {h : ε → Option β} {r : β} (hm : exT (.ok a) h k = some r) : k a = some r := hm
theorem exT_err {ε α β : Type} {e : ε} {k : α → Option β} {h : ε → Option β} {r : β} (hm : exT (.error e : Except ε α) h k = some r) : h e = some r := hm
/-- an error of the class c with these fields, in the heap -/
def ErrAt (K : PySem.W.Frag) (H : Hp) (c : Str) (fs : List Str) (xs : List V) (cls : Value) (d : Option Addr) : Prop := ∃ dd, cls = .ref (He.ga K c) ∧ d = some dd ∧ H dd = some (.xd (putL fs xs []))
def ovI : Option Int → V
  | none => .non
  | some i => .int i
theorem ovI_r {K : PySem.W.Frag} {F : Hp} (x : Option Int) : (qO qI).r K F (ovI x) x := by
  cases x <;> rfl
/-! ### raise -/
def tRz (t : L2.St → Hp → XK → Prop) (E : XK) : TS := fun _ σ H => t σ H E
section
variable {K : PySem.W.Frag} {P : Addr → Prop} {F0 H0 F H : Hp} {σ : L2.St} {c : Str} {fs : List Str} {xs : List V} {E : XK} {ta : TA} {N B C : L2.St → Hp → Prop} {R : VK}
def eK (K : PySem.W.Frag) (c : Str) (fs : List Str) (E : XK) : List V → Hp → Prop := fun vs H1 => vs.length = fs.length ∧ ∀ d, H1 d = none → E (.ref (He.ga K c)) (some d) (upd H1 d (.xd (putL fs vs [])))
theorem rd_rz (k : ta σ H (eK K c fs E)) : tRz (tErr (He.ga K c) fs ta) E ⟨N, R, B, C⟩ σ H := k
theorem rd_eK {vs : List V} (S : Sx P F0 H0 F H) (e : vs = xs) (hl : xs.length = fs.length) (k : ∀ cls d H', Sx P F0 H0 F H' → ErrAt K H' c fs xs cls d → E cls d H') : eK K c fs E vs H := by
  subst e
  exact ⟨hl, fun d hd => k _ _ _ (S.temp hd) ⟨d, rfl, rfl, upd_same⟩⟩
end
section
variable {K : PySem.W.Frag} {P : Addr → Prop} {F0 H0 F H : Hp} {σ : L2.St} {C : Addr} {sp : Sp} {E : L2.St → XK} {Q : VK} {t : TA}
theorem rd_callS (k : t σ H fun vs H1 => sp vs H1 Q (E σ)) : tCallS sp E t σ H Q := k
end
/-! ### try: body, except C as e: suite -/
def tTry (tb : WX → TS) (K : PySem.W.Frag) (c : Value) (i : Nat) (ts : Addr → Value → Option Addr → TS) (Wout : WX) : TS := fun D σ H => tb (wAs K c i ts Wout D) D σ H
section
variable {K : PySem.W.Frag} {P : Addr → Prop} {F0 H0 F H : Hp} {σ : L2.St} {c : Value} {i : Nat} {tb : WX → TS} {ts : Addr → Value → Option Addr → TS} {Wout : WX} {D : Ends} {N B C : L2.St → Hp → Prop} {R : VK} {cls : Value} {d : Option Addr}
theorem rd_try (k : tb (wAs K c i ts Wout ⟨N, R, B, C⟩) ⟨N, R, B, C⟩ σ H) : tTry tb K c i ts Wout ⟨N, R, B, C⟩ σ H := k
theorem rd_was (hb : PySem.W.exmOne K cls c = some true) (k : ∀ a, H a = none → ts a cls d ⟨fun σ' H' => D.nx (σ'.set i none) H', D.rt, fun σ' H' => D.bk (σ'.set i none) H', fun σ' H' => D.ct (σ'.set i none) H'⟩ (σ.set i (some (.ref a))) H) : WE (wAs K c i ts Wout D) σ cls d H := ⟨true, hb, fun _ => k, fun z => by cases z⟩
end
/-! ### fields of the caught error, isinstance of it -/
section
variable {K : PySem.W.Frag} {H : Hp} {σ : L2.St} {a C dd : Addr} {cls : Value} {d : Option Addr} {f : Str} {Q : VK} {te : TE} {l : List (Str × V)} {v : V}
def xfK (a : Addr) (cls : Value) (d : Option Addr) (C : Addr) (f : Str) (Q : VK) : VK := fun x H1 => x = .ref a ∧ cls = .ref C ∧ ∃ (dd : Addr) (fs : List (Str × V)) (v : V), d = some dd ∧ H1 dd = some (.xd fs) ∧ fs.lookup f = some v ∧ Q v H1
theorem rd_xf (k : te σ H (xfK a cls d C f Q)) : tXf a cls d C f te σ H Q := k
theorem xf_at (h : H dd = some (.xd l)) (e : l.lookup f = some v) (k : Q v H) : xfK a (.ref C) (some dd) C f Q (.ref a) H := ⟨rfl, rfl, dd, l, v, rfl, h, e, k⟩
/-- what is asked of a class, so that isinstance of its errors is known -/
def isEB (K : PySem.W.Frag) (D : Addr) : Bool := (PySem.W.clsIn K D).isSome && (decide (PySem.W.findIn K (.ref D) "__getattribute__" = some (some (.builtin "BaseException.__getattribute__"))) && (decide (PySem.W.findIn K (.ref D) "__getattr__" = some none) && (decide (PySem.W.subIn K (.ref D) (.type "BaseException") = some true) &&
  (decide (PySem.W.findIn K (.ref D) "__class__" = some (some (.builtin "object.__class__"))) && (decide (PySem.W.specialIn K (.builtin "object.__class__") "__get__" = some (some (.builtin "getset_descriptor.__get__"))) && (decide (PySem.W.takesIn K (.builtin "object.__class__") = some true) && decide (PySem.W.mroIn K D (.type "object") = some true)))))))
def rIsX (K : PySem.W.Frag) (D a : Addr) (cls : Value) (d : Option Addr) : List V → Hp → VK → Prop := fun xs H Q => ∃ (c : V) (cv : Value) (b : Bool) (dd : Addr) (l : List (Str × V)), xs = [.ref a, c] ∧ cls = .ref D ∧ d = some dd ∧ H dd = some (.xd l) ∧ (∀ u, RelV c u → u = cv) ∧ PySem.W.kitOne K (.ref D) cv = some b ∧ Q (.bl b) H
def kitB (K : PySem.W.Frag) (D : Addr) (cv : Value) (b : Bool) : Bool := decide (PySem.W.kitOne K (.ref D) cv = some b)
theorem rd_isX {D : Addr} {cx : V} {cv : Value} {b : Bool} (h : H dd = some (.xd l)) (hc : ∀ u, RelV cx u → u = cv) (k : kitB K D cv b = true) (q : Q (.bl b) H) : rIsX K D a (.ref D) (some dd) [.ref a, cx] H Q := ⟨cx, cv, b, dd, l, rfl, rfl, rfl, h, hc, of_decide_eq_true k, q⟩
def exmB (K : PySem.W.Frag) (x y : Str) : Bool := decide (PySem.W.exmOne K (.ref (He.ga K x)) (.ref (He.ga K y)) = some true)
theorem exmB_ok {x y : Str} (h : exmB K x y = true) : PySem.W.exmOne K (.ref (He.ga K x)) (.ref (He.ga K y)) = some true := of_decide_eq_true h
end
end Gl
namespace Gl
open PySem PySem.Spec PyProof.Rows L2 C8
section
variable {K : PySem.W.Frag} {P : Addr → Prop} {F0 H0 F H : Hp} {Q : VK} {σ : L2.St} {C p dx : Addr} {sp : Sp} {dvs : List V} {E : XK} {ta : TE} {fs : List (Str × V)}
/-! ## C(e, .., k = v, ..) -/
variable {n m : Nat} {gV : List V → List V → List V} {t tk : TA} {vs zs rest : List V}
end
/-! ## dicts whose keys are pairs, of truths, numbers .. -/
def nB (b : Bool) : NestedKey := .num (if b = true then 1 else 0)
theorem nB_inj : ∀ a b : Bool, nB a = nB b → a = b := by decide
def kB : Kd qB := ⟨nB, fun {K F v a} h => by cases (show v = .bl a from h); exact .bl a, nB_inj, fun a => by show 0 ≤ 8; omega⟩
def k2 {α β : Type} {A : R α} {B : R β} (D : Kd A) (G : Kd B) (hd : ∀ a, (D.k a).depth ≤ 3) (hg : ∀ a, (G.k a).depth ≤ 3) : Kd (q2 A B) := ⟨fun x => .tup [D.k x.1, G.k x.2], fun {K F v a} h => by
    obtain ⟨p, u, w, rfl, h1, h2, h3⟩ := h
    exact .tup h1 (.cons (D.is h2) (.cons (G.is h3) .nil)), fun a b h => by
    have e := NestedKey.tup.inj h
    obtain ⟨e1, e2⟩ := List.cons.inj e
    obtain ⟨e2, _⟩ := List.cons.inj e2
    exact Prod.ext (D.inj _ _ e1) (G.inj _ _ e2), fun a => by
    rw [NestedKey.depth]
    have h1 := hd a.1
    have h2 := hg a.2
    simp only [NestedKey.depthAll]
    omega⟩
def kBB : Kd (q2 qB qB) := k2 kB kB (fun _ => by show 0 ≤ 3; omega) (fun _ => by show 0 ≤ 3; omega)
/-! ## the order of tuples of unlike things -/
class OrdR {α : Type} {B : RR α} (E : DatR B) where
  n : Nat
  al : ∀ a b, PySem.W.alikeAll (E.d a) (E.d b) = true
  dep : ∀ a, PyData.depthAll (E.d a) ≤ n
instance orE1 {α : Type} {A : R α} {D : Dat A} [o : Ord1 D] : OrdR (e1 D) where
  n := o.n
  al := fun a b => by
    show PySem.W.alikeAll [D.d a] [D.d b] = true
    simp [PySem.W.alikeAll, o.al]
  dep := fun a => by
    show PyData.depthAll [D.d a] ≤ _
    have := o.dep a
    simp only [PyData.depthAll]
    omega
instance orEc {α β : Type} {A : R α} {B : RR β} {D : Dat A} {E : DatR B} [o : Ord1 D] [p : OrdR E] : OrdR (ec D E) where
  n := max o.n p.n
  al := fun a b => by
    show PySem.W.alikeAll (D.d a.1 :: E.d a.2) (D.d b.1 :: E.d b.2) = true
    rw [PySem.W.alikeAll, o.al, p.al]; rfl
  dep := fun a => by
    show PyData.depthAll (D.d a.1 :: E.d a.2) ≤ _
    have h1 := o.dep a.1
    have h2 := p.dep a.2
    simp only [PyData.depthAll]
    omega
instance orTr {α β : Type} {A : R α} {B : RR β} {D : Dat A} {E : DatR B} [o : Ord1 D] [p : OrdR E] : Ordd (dTr (ec D E)) where
  n := max o.n p.n + 1
  al := fun a b => by
    show PySem.W.alike (.tuple ((ec D E).d a)) (.tuple ((ec D E).d b)) = true
    rw [PySem.W.alike]; exact (orEc (D := D) (E := E)).al a b
  dep := fun a => by
    show (PyData.tuple ((ec D E).d a)).depth ≤ _
    rw [PyData.depth]
    have := (orEc (D := D) (E := E)).dep a
    exact Nat.succ_le_succ this
  srt := fun bs => PySem.W.Sortable.tuples fun b => ⟨_, _, rfl⟩
end Gl
namespace Gl
open PySem PySem.Spec PyProof.Rows L2 C8
section
variable {α : Type} {A : R α} {K : PySem.W.Frag} {F H H0 : Hp} {P : Addr → Prop} {p : Addr} {vs : List V} {xs : List α}
theorem Ow.dS (w : Ow P H0 F H p (.lst vs)) (S : Same F H) (D : Dat A) (r : Row A K F vs xs) : SeenD (dL D) K H (.ref p) xs := .lst (SqL.of w.at_) (dpAll D (Row.mono S r))
end
end Gl
namespace Gl
open PySem PySem.Spec PyProof.Rows L2
/-! ## keys of texts, of what may be None, of tuples of unlike things -/
/-- a key's depth -/
class KDp {α : Type} {A : R α} (D : Kd A) where
  n : Nat
  le : ∀ a, (D.k a).depth ≤ n
  nn : ∀ a, D.k a ≠ .none
instance : KDp kI := ⟨0, fun _ => Nat.le_refl _, fun _ h => by cases h⟩
instance : KDp kB := ⟨0, fun _ => Nat.le_refl _, fun _ h => by cases h⟩
def kS : Kd qS := ⟨.text, fun {K F v a} h => by cases (show v = .str a from h); exact .txt a, fun a b h => by cases h; rfl, fun a => by show 0 ≤ 8; omega⟩
instance : KDp kS := ⟨0, fun _ => Nat.le_refl _, fun _ h => by cases h⟩
def kO {α : Type} {A : R α} (D : Kd A) [i : KDp D] : Kd (qO A) := ⟨fun o => match o with
  | none => .none
  | some a => D.k a, fun {K F v a} h => by
    cases a with
    | none => cases (show v = .non from h); exact .non
    | some a => exact D.is h, fun a b h => by
    cases a with
    | none => cases b with
      | none => rfl
      | some b => exact absurd h.symm (i.nn b)
    | some a => cases b with
      | none => exact absurd h (i.nn a)
      | some b => exact congrArg some (D.inj a b h), fun a => by
    cases a with
    | none => show 0 ≤ 8; omega
    | some a => exact D.dep a⟩
structure KdR {α : Type} (B : RR α) where
  ks : α → List NestedKey
  is : ∀ {K : PySem.W.Frag} {F : Hp} {vs : List V} {a : α}, B.r K F vs a → NKs K F (ks a) vs
  inj : ∀ a b : α, ks a = ks b → a = b
  dep : ∀ a : α, NestedKey.depthAll (ks a) ≤ 7
class KLow {α : Type} {A : R α} (D : Kd A) : Prop where
  le : ∀ a, (D.k a).depth ≤ 7
instance : KLow kI := ⟨fun _ => by show 0 ≤ 7; omega⟩
instance : KLow kB := ⟨fun _ => by show 0 ≤ 7; omega⟩
instance : KLow kS := ⟨fun _ => by show 0 ≤ 7; omega⟩
instance {α : Type} {A : R α} {D : Kd A} [i : KDp D] [j : KLow D] : KLow (kO D) := ⟨fun a => by
  cases a with
  | none => show 0 ≤ 7; omega
  | some a => exact j.le a⟩
instance : KLow kBB := ⟨fun a => by
  show NestedKey.depth (.tup [nB a.1, nB a.2]) ≤ 7
  rw [NestedKey.depth]
  simp only [NestedKey.depthAll]
  have h1 : (nB a.1).depth = 0 := rfl
  have h2 : (nB a.2).depth = 0 := rfl
  omega⟩
def g1 {α : Type} {A : R α} (D : Kd A) [i : KLow D] : KdR (f1 A) := ⟨fun a => [D.k a], fun ⟨u, h1, h2⟩ => by subst h1; exact .cons (D.is h2) .nil, fun a b h => D.inj _ _ (List.cons.inj h).1, fun a => by
  simp only [NestedKey.depthAll]
  have := i.le a
  omega⟩
/-! ## a class constant -/
def cvB (K : PySem.W.Frag) (C : Addr) (f z : Str) : Bool := PySem.W.readsIn K C (.type "type") && (decide (PySem.W.specialIn K (.ref C) "__getattribute__" = some (some (.builtin "type.__getattribute__"))) && (match PySem.W.findCls K (.ref C) (.type "type") f with
  | some (.val (.str s _)) => decide (s = z)
  | _ => false))
theorem cv_at {K : PySem.W.Frag} {C : Addr} {f z : Str} {H : Hp} {Q : VK} (c : cvB K C f z = true) (k : Q (.str z) H) : ∃ C' mc v u, V.ref C = V.ref C' ∧ ClX.CRead K C' mc ∧ ClX.CVal K C' mc f v u ∧ Q v H := by
  unfold cvB at c
  obtain ⟨c1, c2⟩ := Bool.and_eq_true_iff.mp c
  obtain ⟨d2, c3⟩ := Bool.and_eq_true_iff.mp c2
  clear c2 c
  cases e : PySem.W.findCls K (.ref C) (.type "type") f with
  | none => rw [e] at c3; cases c3
  | some o =>
    rw [e] at c3
    cases o with
    | val u =>
      cases u with
      | str s t =>
        have : s = z := of_decide_eq_true c3
        subst this
        exact ⟨C, .type "type", .str s, .str s t, rfl, ⟨c1, of_decide_eq_true d2⟩, ⟨e, ⟨t, rfl⟩⟩, k⟩
      | _ => cases c3
    | _ => cases c3
theorem rd_cval {K : PySem.W.Frag} {ta : TE} {f : Str} {σ : L2.St} {H : Hp} {Q : VK} (k : ta σ H fun x H1 => ∃ C mc v u, x = V.ref C ∧ ClX.CRead K C mc ∧ ClX.CVal K C mc f v u ∧ Q v H1) : ClX.tCVal K ta f σ H Q := k
theorem rd_cvalC {K : PySem.W.Frag} {C : Addr} {f z : Str} {σ : L2.St} {H : Hp} {Q : VK} (c : cvB K C f z = true) (k : Q (.str z) H) : ClX.tCVal K (tC (V.ref C)) f σ H Q := rd_cval (rd_c (cv_at c k))
theorem pe_cvalK {X : Cx} {K : PySem.W.Frag} {e : Expr} {f : Str} {pos : Pos} {ta : TE} (he : PE X e ta) (hK : X.K = K := by rfl) (hb : attributeBase e f X.env (eval e X.env) = eval e X.env := by rfl) : PE X (.Attribute e f pos) (ClX.tCVal K ta f) := by
  subst hK; exact ClX.pe_cval he hb
end Gl
namespace Gl
open PySem PySem.Spec PyProof.Rows L2
/-! ## isinstance of what may be None -/
def oIs {α : Type} (o : Option α) (y n : Bool) : Bool := match o with
  | some _ => y
  | none => n
section
variable {K : PySem.W.Frag} {F H : Hp} {Q : VK} {v : V}
theorem rd_isiO {α : Type} {A : R α} {o : Option α} {t : Value} {n : String} {y z : Bool} (r : (qO A).r K F v o) (s : ∀ a, o = some a → A.r K F v a → TyX K H v t) (h : PySem.W.kitOne [] t (.type n) = some y) (h2 : PySem.W.kitOne [] (.type "NoneType") (.type n) = some z) (k : Q (.bl (oIs o y z)) H)
    (hk : PySem.W.kitOne K t (.type n) = PySem.W.kitOne [] t (.type n) := by rfl) (hk2 : PySem.W.kitOne K (.type "NoneType") (.type n) = PySem.W.kitOne [] (.type "NoneType") (.type n) := by rfl) : rIsi K [v, .ty n] H Q := by
  cases o with
  | none => cases (show v = .non from r); exact rd_isi tx_non h2 k hk2
  | some a => exact rd_isi (s a rfl r) h k hk
end
end Gl
namespace Gl
open PySem PySem.Spec PyProof.Rows L2
/-! ## xs == [], whatever stands in xs -/
def rEqNil (K : PySem.W.Frag) : R2 := fun x y H Q => ∃ p q xs, x = .ref p ∧ y = .ref q ∧ SqL K H p xs ∧ SqL K H q [] ∧ Q (.bl xs.isEmpty) H
theorem op_eqNil {X : Cx} (hu : X.A.units < cLine) : OpR X (compareOp .Eq) (rEqNil X.K) := by
  intro pins s σ H x y v u Q I rx ry h
  obtain ⟨p, q, xs, rfl, rfl, h1, h2, k⟩ := h
  cases rx; cases ry
  obtain ⟨its, r1, pl1, z1⟩ := I.list h1
  obtain ⟨js, r2, pl2, z2⟩ := I.list h2
  have ej : js = [] := by cases r2; rfl
  subst ej
  cases r1 with
  | nil => exact SeqAt.eq_listAt (e := fun _ => true) pl1.isList pl2.isList rfl hu (fun j h1 _ => absurd h1 (Nat.not_lt_zero _)) ⟨.bl _, H, I, rfl, k⟩
  | cons a b => exact SeqAt.eq_list_lengthsAt pl1.isList pl2.isList (by rw [List.size_toArray, List.size_toArray, List.length_cons]; rfl) hu ⟨.bl _, H, I, rfl, k⟩
theorem rd_eqNil {α β : Type} {A : R α} {B : R β} {K : PySem.W.Frag} {F H : Hp} {v w : V} {xs : List α} {Q : VK} (s : SeenR A K F H v xs) (t : SeenR B K F H w ([] : List β)) (k : Q (.bl xs.isEmpty) H) : rEqNil K v w H Q := by
  obtain ⟨p, vs, rfl, h1, r1⟩ := s
  obtain ⟨q, ws, rfl, h2, r2⟩ := t
  have e : ws = [] := by cases r2; rfl
  subst e
  refine ⟨p, q, vs, rfl, rfl, h1, h2, ?_⟩
  have : vs.isEmpty = xs.isEmpty := by cases r1 <;> rfl
  rw [this]; exact k
end Gl
namespace Gl
open PySem PySem.Spec PyProof.Rows L2 C8
end Gl
namespace Gl
open PySem PySem.Spec PyProof.Rows L2
end Gl
namespace Gl
open PySem PySem.Spec PyProof.Rows L2
/-- tuple(..) in a comprehension's element -/
theorem pe_tupleOfK {X : Cx} {K : PySem.W.Frag} {p pos : Pos} {a : Expr} {ta : TE} (hK : X.K = K) (hg : L2.Gl X "tuple") (hm : X.mg "tuple" = none) (ha : PE X a ta) (na : starEach [a] X.env = (false, eval a X.env) :: starEach [] X.env := by rfl) :
    PE X (.Call (.Name "tuple" p) [a] [] pos) (tThen ta (kTup K)) := hK ▸ pe_tupleOf hg hm ha na
end Gl
namespace Gl
open PySem PySem.Spec PyProof.Rows L2
/-! ## a name's kind, decided -/
theorem dk {p : Prop} [Decidable p] (h : decide p = true) : p := of_decide_eq_true h
instance locDec {sc : Scope} {x : Str} : Decidable (Loc sc x) := inferInstanceAs (Decidable (sc.names.lookup x = some .local ∨ sc.names.lookup x = some .cell))
end Gl
namespace Gl
open PySem PySem.Spec PyProof.Rows L2
/-! ## a != b, a of a class with an == of its own and no != -/
structure OwnNe (K : PySem.W.Frag) (C : Addr) : Prop where
  ne : PySem.W.findIn K (.ref C) "__ne__" = some (some (.builtin "object.__ne__"))
  mro : PySem.W.mroIn K C (.type "object") = some true
end Gl
namespace Gl
open PySem PySem.W PySem.Calls PyProof.Rows
end Gl
namespace Gl
open PySem PySem.Spec PyProof.Rows L2
/-! ## what a class of one's own with an == must have -/
structure OwnE (K : PySem.W.Frag) (C : Str) : Prop where
  eq : OwnEq K (He.ga K C) (He.fAd K (C, some "__eq__"))
  ne : OwnNe K (He.ga K C)
  ni : PySem.W.notFirst K (He.ga K C) (.type "int") = true
  np : ∀ y, isPatC y → PySem.W.notFirst K (He.ga K C) (.ref (He.ga K y)) = true
  isa : PySem.W.kitOne K (.ref (He.ga K C)) (.ref (He.ga K C)) = some true
  isi : PySem.W.kitOne K (.type "int") (.ref (He.ga K C)) = some false
  isp : ∀ y, isPatC y → PySem.W.kitOne K (.ref (He.ga K y)) (.ref (He.ga K C)) = some false
  ins : InsF K (He.ga K C)
/-! ## xs != [], whatever stands in xs -/
def rNeNil (K : PySem.W.Frag) : R2 := fun x y H Q => ∃ p q xs, x = .ref p ∧ y = .ref q ∧ SqL K H p xs ∧ SqL K H q [] ∧ Q (.bl (!xs.isEmpty)) H
theorem op_neNil {X : Cx} (hu : X.A.units < cLine) : OpR X (compareOp .NotEq) (rNeNil X.K) := by
  intro pins s σ H x y v u Q I rx ry h
  obtain ⟨p, q, xs, rfl, rfl, h1, h2, k⟩ := h
  cases rx; cases ry
  obtain ⟨its, r1, pl1, z1⟩ := I.list h1
  obtain ⟨js, r2, pl2, z2⟩ := I.list h2
  have ej : js = [] := by cases r2; rfl
  subst ej
  show wpAny _ _ (richCompare .NotEq (.ref p) (.ref q)) _ _ s
  cases r1 with
  | nil => exact SeqAt.RcNeAt.lists (e := fun _ => true) pl1.isList pl2.isList rfl hu (fun j h1 _ => absurd h1 (Nat.not_lt_zero _)) _ _ _ _ ⟨.bl _, H, I, rfl, k⟩
  | cons a b => exact SeqAt.RcNeAt.lists_lengths pl1.isList pl2.isList (by rw [List.size_toArray, List.size_toArray, List.length_cons]; rfl) hu _ _ _ _ ⟨.bl _, H, I, rfl, k⟩
theorem rd_neNil {α β : Type} {A : R α} {B : R β} {K : PySem.W.Frag} {F H : Hp} {v w : V} {xs : List α} {Q : VK} (s : SeenR A K F H v xs) (t : SeenR B K F H w ([] : List β)) (k : Q (.bl (!xs.isEmpty)) H) : rNeNil K v w H Q := by
  obtain ⟨p, vs, rfl, h1, r1⟩ := s
  obtain ⟨q, ws, rfl, h2, r2⟩ := t
  have e : ws = [] := by cases r2; rfl
  subst e
  refine ⟨p, q, vs, rfl, rfl, h1, h2, ?_⟩
  have : vs.isEmpty = xs.isEmpty := by cases r1 <;> rfl
  rw [this]; exact k
end Gl
namespace Gl
open PySem PySem.Spec PyProof.Rows L2
end Gl
namespace Gl
open PySem PySem.Spec PyProof.Rows L2
end Gl
namespace Gl
open PySem PySem.Spec PyProof.Rows L2
end Gl
namespace Gl
open PySem PySem.Spec PyProof.Rows L2
end Gl
namespace Gl
open PySem PySem.Spec PyProof.Rows L2
end Gl
namespace Gl
open PySem PySem.Spec PyProof.Rows L2 C8 HotX
open PySem.OwnE (ErC IS putM)
section
variable {P : Program} {w : World} {K : PySem.W.Frag} {mg : Str → Option Value} {base : Heap} {N : List Str} {qual : Str} {scope : Scope} {f : Addr} {cd : Value} {A : Around} {outer : List Env} {s : Shared} {H0 : Hp} {E : XK}
theorem takes_cxN : L2N.Takes (cxOf (L2N.CX P w) P w K mg base N qual scope f cd A outer s H0 E) (fun cls d _ H' => E cls d H') := L2N.takes_of rfl rfl rfl rfl
theorem passes_cxN : Passes (L2N.CX P w) (cxOf (L2N.CX P w) P w K mg base N qual scope f cd A outer s H0 E) E := L2N.passes_call takes_cxN (fun _ _ _ _ h => h)
theorem owns_cxN : PassesOwn (model P w) (cxOf (L2N.CX P w) P w K mg base N qual scope f cd A outer s H0 E).A (cxOf (L2N.CX P w) P w K mg base N qual scope f cd A outer s H0 E).env (cxOf (L2N.CX P w) P w K mg base N qual scope f cd A outer s H0 E).xe := passes_of rfl
theorem ps_rzN {e : Expr} {t : L2.St → Hp → XK → Prop} {pos : Pos} (he : L2N.PMk (cxOf (L2N.CX P w) P w K mg base N qual scope f cd A outer s H0 E) e t) : PS (cxOf (L2N.CX P w) P w K mg base N qual scope f cd A outer s H0 E) (.Raise (some e) none pos) (tRz t E) := L2N.ps_raise rfl takes_cxN he
end
/-! ### an error that is made: its six fields, its context None -/
section
variable {X : Cx} {C fI : Addr} {q : Str} {params : Arguments} {body : List Stmt} {scope : Scope} {fs : List Str}
/-- a made error's record -/
def MkN (X : Cx) (pins : List (Addr × Obj)) (σ : L2.St) (Q : XK) (u : Value) (s' : Shared) : Prop := L2N.MkP X pins σ Q u s' ∧ ∀ (a : Addr) (oe : Obj) (vs : Array Value), u = .ref a → s'.heap.get? a = some oe → oe.data = .fields vs → 4 < vs.size
def PMkN (X : Cx) (e : Expr) (t : L2.St → Hp → XK → Prop) : Prop := ∀ (pins : List (Addr × Obj)) (s : Shared) (σ : L2.St) (H : Hp) (Q : XK), Inv X pins σ H s → t σ H Q → wpAny (model X.prog X.w) X.A (eval e X.env) (MkN X pins σ Q) X.xe s
theorem PMkN.n {e : Expr} {t : L2.St → Hp → XK → Prop} (h : PMkN X e t) : L2N.PMk X e t := fun p s σ H Q I q => thn (h p s σ H Q I q) fun _ _ z => z.1
theorem pmk_errN {x : Str} {a : Expr} {as : List Expr} {ta : TA} {p pos : Pos} {k : Nat} (T : ErC X.prog X.K C fI q params body scope) (S : IS q params body scope fs) (hno : ∀ f ∈ fs, PySem.W.findIn X.K (.ref C) f = some none) (gC : X.mg x = some (.ref C)) (kC : PySem.W.keepIn X.K (.ref C) = true) (hr : L2H.RoomH (k + 1) X.A) (hg : Gl X x)
    (ha : PA X (a :: as) ta) (hdb : (x == ("__debug__" : Str)) = false := by decide)
    (he : starEach (a :: as) X.env = (false, eval a X.env) :: starEach as X.env := by rfl) (hpl : (backTo pos (starEach as X.env)).any (·.1) = false := by rfl) :
    PMkN X (.Call (.Name x p) (a :: as) [] pos) (tErr C fs ta) := by
  intro pins s σ H Q I h
  refine wpAny_Call_Name_kw (ld_glob I hg gC ?_ hdb)
  refine PySem.W.callWith_K (h₀ := X.base) I.ok.mod.kin kC (thn (ha.run pos pins s σ H _ I h) fun us s1 hh => ?_) he hpl
  obtain ⟨vs, H1, I1, r1, hl, q1⟩ := hh
  refine ⟨I1.kIn, ?_⟩
  show wpAny _ _ (call (.ref C) us) _ _ _
  have hlim := I1.nolimit
  obtain ⟨mb, Gb, hmb⟩ := I1.ok.mod.blt
  have hG : s1.heap.Ns mainGlobals X.mg := I1.ok.mod.glob.keeps I1.bk
  have hB : s1.heap.Ns builtinsNs mb := Gb.keeps I1.bk
  obtain ⟨hp, g, dr, tk, os⟩ := s1
  refine wpAny_call (PySem.OwnE.err_made T S hno I1.kIn hlim hG hB (hmb _ (by decide)) (by have := hr.dp; omega) (by rw [← r1.length]; exact hl) fun h' tk' e d M => ?_)
  show MkN X pins σ Q (.ref e) ⟨h', g, dr, tk', os⟩
  obtain ⟨oe, fv, hoe, hc, hd, hdat, h1, h2, h4⟩ := M.obj
  have hns := M.ns
  obtain ⟨G', g1, g2⟩ := restrict h' fun b => decide (b ≠ e)
  have gk : ∀ b, b ≠ e → G'.get? b = h'.get? b := fun b hb => g1 b (decide_eq_true hb)
  have ge : G'.get? e = none := g2 e (by simp)
  have old : ∀ b o, hp.get? b = some o → G'.get? b = some o := fun b o q => (gk b (Nat.ne_of_lt (Nat.lt_of_lt_of_le (Heap.lt_size q) M.new))).trans (M.keep b o q)
  have ob : ObjOk X.prog X.w (upd H1 d (.xd (putL fs vs []))) G' d (.xd (putL fs vs [])) :=
    ⟨_, hns.at (fun o q => (gk d M.dne).trans q), relO_putL r1 fun g => trivial⟩
  have J : Inv X pins σ (upd H1 d (.xd (putL fs vs []))) ⟨G', g, dr, tk', os⟩ := I1.laid (t' := tk') old M.dbig ob
  refine ⟨⟨e, oe, fv, ⟨G', g, dr, tk', os⟩, _, .ref C, some d, rfl, J, fun b o q => ?_, ge, hoe, ⟨hc, hd, fun v z => ?_⟩, hdat, h1, ?_, rfl, I1.bare, raises_own T.x.exC T.x.tyC, q1 d (I1.hok.fresh M.dbig)⟩, fun a2 o2 v2 ea hg2 hd2 => ?_⟩
  · by_cases hb : b = e
    · have q' : G'.get? b = some o := q
      rw [hb, ge] at q'; cases q'
    · exact (gk b hb).symm.trans q
  · rw [hdat] at z
    cases z
    exact h2
  · rw [upd_ne (Ne.symm M.dne)]
    exact I1.hok.fresh M.new
  · cases ea
    have q2 : h'.get? e = some o2 := hg2
    rw [hoe] at q2
    cases q2
    rw [hdat] at hd2
    cases hd2
    exact h4
end
theorem room_mark {k : Nat} {A : Around} {h : Option Value} (r : Room k A) : L2H.RoomH k (A.mark h) := ⟨r.dp, r.un⟩
theorem room_h {k : Nat} {A : Around} (r : Room k A) : L2H.RoomH k A := ⟨r.dp, r.un⟩
theorem cxUpN {P : Program} {w : World} : StX.CXUp (L2N.CX P w) := by
  intro ou s H t H2 E u t' un kp ho z
  obtain ⟨a, G, H1, c, d, ea, fl, hok, ub, na, os, ag, he⟩ := z
  have fr : ∀ {b : Addr} {o : Obj}, s.heap.get? b = some o → H b = none → H2 b = none := fun q n => un.free _ _ q n (fun z => by cases z)
  refine ⟨a, G, H1, c, d, ea, fl, hok, { keep := fun b o q n hb => ub.keep b o (kp b o q) (fr q n) hb, slot := fun b o q hb => ub.slot b o (kp b o q) hb, free := fun b o q n => ub.free b o (kp b o q) (fr q n), there := fun b o q hb => ub.there b o (kp b o q) hb, tups := fun b xs q => ub.tups b xs (un.tups b xs q), frzs := fun b o xs q => ub.frzs b o xs (un.frzs b o xs q), tbls := fun b ps q => ?_ }, na, os.trans ho, ag, he⟩
  obtain ⟨m1, e1⟩ := un.tbls b ps q
  obtain ⟨m2, e2⟩ := ub.tbls b _ e1
  exact ⟨m1 ++ m2, by rw [e2, Array.append_assoc]⟩
end Gl
namespace Gl
open PySem PySem.Spec PyProof.Rows L2
/-! ## lists of things that are all texts -/
def thAll : List Th → Option (List Str)
  | [] => some []
  | a :: l => (thS a).bind fun s => (thAll l).bind fun r => some (s :: r)
theorem row_thAll {K : PySem.W.Frag} {F : Hp} : ∀ {vs : List V} {xs : List Th} {ys : List Str}, Row qTh K F vs xs → thAll xs = some ys → Row qS K F vs ys
  | _, _, _, .nil, h => by cases h; exact .nil
  | _, _, _, .cons r t, h => by
    obtain ⟨s, h1, h2⟩ := bd_some h
    obtain ⟨l, h3, h4⟩ := bd_some h2
    cases h4
    exact .cons (thS_fact r h1) (row_thAll t h3)
theorem qT_thAll {K : PySem.W.Frag} {F : Hp} {v : V} {xs : List Th} {ys : List Str} (r : (qT qTh).r K F v xs) (h : thAll xs = some ys) : (qT qS).r K F v ys := by
  obtain ⟨p, vs, e, h1, h2⟩ := r
  exact ⟨p, vs, e, h1, row_thAll h2 h⟩
theorem qL_thAll {K : PySem.W.Frag} {F : Hp} {v : V} {xs : List Th} {ys : List Str} (r : (qL qTh).r K F v xs) (h : thAll xs = some ys) : (qL qS).r K F v ys := by
  obtain ⟨p, vs, e, h1, h2⟩ := r
  exact ⟨p, vs, e, h1, row_thAll h2 h⟩
/-! ## a def that is handed the error that is handled -/
/-- what such a def promises, for the error p -/
structure FnE (P : Program) (w : World) (K : PySem.W.Frag) (mg : Str → Option Value) (base : Heap) (k : Nat) (f : Addr) (fd : FuncData) (ps : List Str) (p : Addr × Obj) (sp : Sp) : Prop where
  len : ∀ vs H Q E, sp vs H Q E → vs.length = ps.length
  run : ∀ (A : Around) (outer : List Env) (s : Shared) (H : Hp) (args : Args) (us : List Value) (vs : List V) (Q : VK) (E : XK), L2H.RoomH k A → L2H.Hot1 A p → L2H.PinOk outer H s p → Env0 P w K mg base A outer s H → BindsTo s fd args (ps.zip us) → Vals vs us → sp vs H Q E →
    codeAny (model P w) A (.call (.ref f) args) (CR CX0 outer P w H s Q E) s
theorem fne_of {P : Program} {w : World} {K : PySem.W.Frag} {mg : Str → Option Value} {base : Heap} {k : Nat} {f : Addr} {x qual : Str} {params : Arguments} {body : List Stmt} {scope : Scope} {dvs : List V} {kws : List (Str × V)} {fd : FuncData} {N ps : List Str} {p : Addr × Obj} {sp : Sp}
    (F : FunD K x qual params body scope dvs kws f fd) (S : FnScope N ps scope) (len : ∀ vs H Q E, sp vs H Q E → vs.length = ps.length)
    (hb : ∀ (cdv : Value) (A : Around) (outer : List Env) (s : Shared) (H : Hp) (vs : List V) (Q : VK) (E : XK), sp vs H Q E → ∃ t, PSs (L2H.cxH CX0 P w K mg base N qual scope f cdv A outer s H E p) body t ∧ t { nx := fun _ H' => Q .non H', rt := Q } (L2.start N vs) H) : FnE P w K mg base (k + 1) f fd ps p sp := by
  obtain ⟨oc, od, dV, kV, doc, pm, an, cdv, ct, osl, rfl, lk, hcd, _, _⟩ := F.ex
  refine ⟨len, fun A outer s H args us vs Q E room hot pin e0 bnd rv want => ?_⟩
  have far : ∀ b o, base.get? b = some o → s.heap.get? b = some o := fun b o e => (e0.bs b o e).1
  have KX : K.In s.heap := e0.mod.kin.keeps far
  have kinds : ∀ y ∈ ps.zip us, scope.names.lookup y.1 = some .local ∨ (scope.names.lookup y.1 = some .cell ∧ ((cellsFrom (s.heap.objs.size + 1) scope.names []).lookup y.1).isSome = true) := by
    rintro ⟨n, v⟩ hy
    exact (S.par n (List.of_mem_zip hy).1).imp id fun q => ⟨q, PySem.W.cellsFrom_some _ _ _ (.inl q)⟩
  refine codeAny_call_function room.depth (KX _ _ lk) rfl S.co S.gen rfl (PySem.W.codeRec_of KX hcd) (bnd _ _ _ _ (wpAny_newFunctionEnv_cells S.kind kinds fun env he s1 x => ?_))
  subst he
  refine ⟨(e0.mod.nolimit.keeps far).keeps x.toInCall.keep, codeAny_func ?_⟩
  obtain ⟨t, d, q⟩ := hb cdv A outer s H vs Q E want
  refine wpAny_mono (d.run [] s1 (L2.start N vs) H _ (L2H.inv_startH S pin e0 (len _ _ _ _ want) rv x) q) (fun fl s' hs => ?_) fun _ _ z => z
  cases fl with
  | next => exact hs.elim fun σ' z => z.elim fun H' z => ⟨V.non, H', z.1.os, z.1.bare, z.1.base, z.1.hok, rfl, z.2⟩
  | ret u => exact hs.elim fun v z => z.elim fun σ' z => z.elim fun H' z => ⟨v, H', z.1.os, z.1.bare, z.1.base, z.1.hok, z.2.1, z.2.2⟩
  | brk => exact hs.elim fun _ z => z.elim fun _ z => z.2.elim
  | cont => exact hs.elim fun _ z => z.elim fun _ z => z.2.elim
section
variable {X : Cx} {k : Nat} {f : Addr} {fd : FuncData} {ps : List Str} {sp : Sp} {x : Str} {q pos : Pos} {e : Expr} {ta : TA} {p : Addr × Obj}
def tCallE (sp : Sp) (t : TA) : TE := fun σ H Q => t σ H fun vs H1 => sp vs H1 Q (fun _ _ _ => False)
/-- f(n) in the suite, n the clause's name -/
theorem pe_callE (F : FnE X.prog X.w X.K X.mg X.base k f fd ps p sp) (hr : L2H.RoomH k X.A) (hot : L2H.Hot1 X.A p) (hp : p ∈ X.pn) (hg : Gl X x) (hm : X.mg x = some (.ref f)) (hk : PySem.W.keepIn X.K (.ref f) = true) (hb : Binds X.K fd ps [])
    (ha : PA X [e] ta) (hdb : (x == ("__debug__" : Str)) = false := by decide) (he : starEach [e] X.env = (false, eval e X.env) :: starEach [] X.env := by rfl) (hpl : (backTo pos (starEach [] X.env)).any (·.1) = false := by rfl) : PE X (.Call (.Name x q) [e] [] pos) (tCallE sp ta) := by
  constructor
  intro pins s σ H Q I h
  refine wpAny_Call_Name_kw (ld_glob I hg hm ?_ hdb)
  refine PySem.W.callWith_K (h₀ := X.base) I.ok.mod.kin hk (thn (ha.run pos pins s σ H _ I h) fun us s1 hh => ?_) he hpl
  obtain ⟨vs, H1, I1, r, w⟩ := hh
  refine ⟨I1.kIn, ?_⟩
  have b := hb s1 us I1.kIn (by rw [List.append_nil, ← r.length]; exact F.len _ _ _ _ w)
  rw [List.append_nil] at b
  obtain ⟨P1, P2, P3, P4, P5⟩ := I1.pin p (List.mem_append_left _ hp)
  refine wpAny_call (codeAny_mono (F.run X.A X.stack s1 H1 ⟨us, []⟩ us vs Q _ hr hot ⟨P1, P2, fun hm => (List.mem_cons.mp (I1.stkSub p.1 hm)).elim P3 P4, P5⟩ I1.env0 b r w) fun r s' hq => ?_)
  cases r with
  | error e => exact hq.elim
  | ok fl =>
    cases fl with
    | ret u => exact I1.after hq
    | next => exact False.elim hq
    | brk => exact False.elim hq
    | cont => exact False.elim hq
theorem hot_suite {Y : Cx} {a : Addr} {oe : Obj} {cls : Value} {d : Option Addr} {pn : List (Addr × Obj)} (z : L2N.Zn cls d oe) (h : ∃ vs, oe.data = .fields vs) : L2H.Hot1 (Y.suite a ((a, oe) :: pn)).A (a, oe) := by
  obtain ⟨vs, e⟩ := h
  exact ⟨rfl, vs, e, z.2.2 vs e⟩
/-! isinstance of a pinned error -/
variable {D : Addr} {cls : Value} {d : Option Addr} {a : Addr} {oe : Obj}
theorem kitx_pin (c : isEB X.K D = true) (hz : Zc (.ref D) d oe) (hf : ∃ vs, oe.data = .fields vs) {pins : List (Addr × Obj)} {σ : L2.St} {H : Hp} {s : Shared} (I : Inv X pins σ H s) (hp : (a, oe) ∈ X.pn) {dd : Addr} {l : List (Str × V)} (ed : d = some dd) (hdd : H dd = some (.xd l)) :
    ∃ od : Obj, PySem.W.KitX X.K (.ref a) (.ref D) (fun h => PySem.W.InstAt h a oe D (some od)) ∧ PySem.W.InstAt s.heap a oe D (some od) := by
  subst ed
  unfold isEB at c
  obtain ⟨c1, c⟩ := He.ba c
  obtain ⟨c2, c⟩ := He.ba c
  obtain ⟨c3, c⟩ := He.ba c
  obtain ⟨c4, c⟩ := He.ba c
  obtain ⟨c5, c⟩ := He.ba c
  obtain ⟨c6, c⟩ := He.ba c
  obtain ⟨c7, c8⟩ := He.ba c
  have at_ := (I.pin (a, oe) (List.mem_append.mpr (.inl hp))).1
  obtain ⟨vs, hv⟩ := hf
  obtain ⟨mA, hns, _⟩ := (I.hok dd _ hdd : ObjOk X.prog X.w H s.heap dd (.xd l))
  obtain ⟨od, ho, _⟩ := lookIn_ns hns
  exact ⟨od, PySem.W.kitx_exc c1 (of_decide_eq_true c2) (of_decide_eq_true c3) (of_decide_eq_true c4) (of_decide_eq_true c5) (of_decide_eq_true c6) (of_decide_eq_true c7) (of_decide_eq_true c8), ⟨at_, hz.1, by unfold PySem.W.notCls; rw [hv] <;> rfl, by rw [hz.2]; exact ho⟩⟩
theorem cr_isXP (c : isEB X.K D = true) (hz : Zc (.ref D) d oe) (hf : ∃ vs, oe.data = .fields vs) (hp : (a, oe) ∈ X.pn) : CallR X (.builtin "isinstance") (rIsX X.K D a (.ref D) d) := by
  intro pins s σ H xs us Q I r h
  obtain ⟨c1, cv, b, dd, l, rfl, _, ed, hdd, hcv, e, q⟩ := h
  obtain ⟨u1, u2, rfl, r1, r2⟩ := vals2 r
  cases r1
  have e2 := hcv _ r2
  subst e2
  obtain ⟨od, Z, J⟩ := kitx_pin c hz hf I hp ed hdd
  exact PySem.W.kia_one Z I.kIn J e (fun z => nomatch z) fun tk => ⟨.bl b, H, I.tok tk, rfl, q⟩
def rIsXT (K : PySem.W.Frag) (D a : Addr) (d : Option Addr) : List V → Hp → VK → Prop := fun xs H Q => ∃ (tp : Addr) (cs : List V) (ws : List Value) (b : Bool) (dd : Addr) (l : List (Str × V)), xs = [.ref a, .ref tp] ∧ H tp = some (.tup cs) ∧ Paired ClsV cs ws ∧ d = some dd ∧ H dd = some (.xd l) ∧ PySem.W.kitAny K (.ref D) ws = some b ∧ Q (.bl b) H
theorem cr_isXT (c : isEB X.K D = true) (hz : Zc (.ref D) d oe) (hf : ∃ vs, oe.data = .fields vs) (hp : (a, oe) ∈ X.pn) : CallR X (.builtin "isinstance") (rIsXT X.K D a d) := by
  intro pins s σ H xs us Q I r h
  obtain ⟨tp, cs, ws, b, dd, l, rfl, hT, k, ed, hdd, e, q⟩ := h
  obtain ⟨u1, u2, rfl, r1, r2⟩ := vals2 r
  cases r1
  cases (show u2 = Value.ref tp from r2)
  obtain ⟨od, Z, J⟩ := kitx_pin c hz hf I hp ed hdd
  obtain ⟨_, its, rv, o, h1, h2, n, h3⟩ := (show ObjOk X.prog X.w H s.heap tp (.tup cs) from I.hok tp _ hT)
  have e3 := ClsV.all k rv
  subst e3
  obtain ⟨oc, od2, dt, sl⟩ := o
  simp only at h2 h3
  subst h2 h3
  exact PySem.W.kia_tup Z I.kIn J h1 e (fun z => nomatch z) fun tk => ⟨.bl b, H, I.tok tk, rfl, q⟩
theorem rd_callE {sp : Sp} {ta : TA} {σ : L2.St} {H : Hp} {Q : VK} (k : ta σ H fun vs H1 => sp vs H1 Q (fun _ _ _ => False)) : tCallE sp ta σ H Q := k
theorem rd_isXT {K : PySem.W.Frag} {P : Addr → Prop} {F0 H0 F H : Hp} {cs : List V} {ws : List Value} {b : Bool} {dd : Addr} {l : List (Str × V)} {Q : VK} (S : Sx P F0 H0 F H) (hx : H dd = some (.xd l)) (k : Paired ClsV cs ws) (e : decide (PySem.W.kitAny K (.ref D) ws = some b) = true) (q : ∀ F' H', Sx P0 F H F' H' → Q (.bl b) H') :
    nK (fun v H1 => rIsXT K D a (some dd) [.ref a, v] H1 Q) H (.tup cs) :=
  alF S fun p F' H' c h => ⟨p, cs, ws, b, dd, l, rfl, c.sub _ _ h, k, rfl, c.same _ _ hx (fun z => z), of_decide_eq_true e, q F' H' c⟩
end
section
variable {X : Cx} {x n : Str} {c : Value} {i : Nat} {body suite : List Stmt} {b₀ : Stmt} {np pos pos' : Pos} {tb : WX → TS} {ts : Addr → Value → Option Addr → TS} {Wout : WX}
theorem ps_tryNK (hs : X.stack = X.env :: X.outer) (hf : X.env.frame = some X.env.locals) (hN : X.N.Nodup) (hi : X.N[i]? = some n) (hln : X.env.kindOf n = some .local) (hc : Names X x c) (tk : L2N.Takes X Wout)
    (hb : ∀ (W : WX) (pn : List (Addr × Obj)) (xe : Value → Shared → Prop), L2N.Takes (X.tr pn xe) W → PassesOwn (model X.prog X.w) X.A X.env xe → PSs (X.tr pn xe) body (tb W))
    (hsu : ∀ (a : Addr) (oe : Obj) (cls : Value) (d : Option Addr) (pn : List (Addr × Obj)), L2N.Zn cls d oe → (∃ vs, oe.data = .fields vs) → PSs (X.suite a ((a, oe) :: pn)) (b₀ :: suite) (ts a cls d)) :
    PS X (.Try body [.ExceptHandler (some (.Name x np)) (some n) (b₀ :: suite) pos'] [] [] pos) (tTry tb X.K c i ts Wout) := L2N.ps_try_as hs hf hN hi hln hc tk hb hsu
theorem takesFN : L2N.Takes X (fun _ _ _ _ => False) := fun _ _ ⟨_, _, _, _, _, _, _, _, _, _, _, _, _, _, _, _, w⟩ => w.elim
end
theorem pe_makeR0 {X : Cx} {CX : CXT} {k : Nat} {f C : Addr} {sp : Sp} {E : XK} {x : Str} {p pos : Pos} (M : Mk X.K C f) (F : FnR X.prog X.w X.K X.mg X.base CX k f sp) (hr : Room (k + 1) X.A) (hg : Gl X x) (hm : X.mg x = some (.ref C)) (hx : Passes CX X E)
    (hdb : (x == ("__debug__" : Str)) = false := by decide) : PE X (.Call (.Name x p) [] [] pos) (StX.tMakeR C sp E tNil) := by
  constructor
  intro pins s σ H Q I h
  refine wpAny_Call_Name_kw (ld_glob I hg hm ?_ hdb)
  exact PySem.W.callWith_K0 I.kIn M.kp (StX.run_makeR (us := []) M F hr hx I .nil h)
/-! ## a form is a pattern -/
def isFormB (K : PySem.W.Frag) : Bool := insB K (He.ga K "Form") && isaB K "Form" "Pattern" true
theorem rd_isForm {K : PySem.W.Frag} {P' : Addr → Prop} {F0 H0 F H : Hp} {v : V} {a : List Str} {Q : VK} (c : isFormB K = true) (T : Cls K (He.ga K "Form")) (S : Sx P' F0 H0 F H) (r : qForm.r K F v a) (k : Q (.bl true) H) : rIsi K [v, .ref (He.ga K "Pattern")] H Q := by
  obtain ⟨c1, c2⟩ := He.ba c
  obtain ⟨p, dx, u, rfl, h2, _⟩ := r
  obtain ⟨i1, i2, i3, i4⟩ := insB_ok c1
  exact ⟨_, _, _, _, true, rfl, .own _, .base (.ins (S.sub _ _ h2) T i1 i2 i3 i4), isaB_ok c2, k⟩
/-! ## a truth that is not to be reckoned out on the way -/
@[irreducible] def opB (b : Bool) : Bool := b
theorem opB_eq (b : Bool) : opB b = b := by unfold opB; rfl
theorem rd_neDo {α : Type} [DecidableEq α] {A : R α} {D : Dat A} {K : PySem.W.Frag} {H : Hp} {u v : V} {a b : α} {Q : VK} (h1 : Dp K H u (D.d a)) (h2 : Dp K H v (D.d b)) (s1 : shp D a = true) (s2 : shp D b = true) (k : Q (.bl (opB (!decide (a = b)))) H) : rNeD K u v H Q :=
  rd_neD (D := D) h1 h2 s1 s2 (by rw [opB_eq] at k; exact k)
end Gl
namespace Gl
open PySem PySem.Spec PyProof.Rows L2
/-! ## plain mathematics: results that are there -/
def Ok {α : Type} (x : Option α) (Q : α → Prop) : Prop := ∃ a, x = some a ∧ Q a
section
variable {α β S ρ : Type} {x y : Option α} {P Q : α → Prop} {f : α → Option β} {R : β → Prop} {a : α} {b : Bool}
theorem Ok.sm (h : Q a) : Ok (some a) Q := ⟨a, rfl, h⟩
theorem Ok.bd (h : Ok x P) (k : ∀ a, P a → Ok (f a) R) : Ok (x.bind f) R := by
  obtain ⟨a, rfl, p⟩ := h
  exact k a p
theorem Ok.bde (h : x = some a) (k : Ok (f a) R) : Ok (x.bind f) R := by
  rw [h]; exact k
theorem Ok.gd (h : b = true) (k : Ok x Q) : Ok (gd b x) Q := by rw [gd_true h]; exact k
theorem Ok.ite (h1 : b = true → Ok x Q) (h2 : b = false → Ok y Q) : Ok (if b = true then x else y) Q := by
  cases b with
  | true => exact h1 rfl
  | false => exact h2 rfl
theorem Ok.mono (h : Ok x P) (k : ∀ a, P a → Q a) : Ok x Q := let ⟨a, e, p⟩ := h; ⟨a, e, k a p⟩
theorem Ok.eq {a : α} (h : Ok x fun r => r = a) : x = some a := let ⟨b, e, p⟩ := h; p ▸ e
theorem Ok.of (h : x = some a) (k : Q a) : Ok x Q := ⟨a, h, k⟩
/-- a loop: what holds ahead of each item -/
theorem Ok.loop {f : α → S → Option S} {xs : List α} {s0 : S} (I : List α → S → Prop) (h0 : I [] s0) (hs : ∀ pre x post s, xs = pre ++ x :: post → I pre s → Ok (f x s) (I (pre ++ [x]))) : Ok (loopS f xs s0) (I xs) := by
  have key : ∀ (post pre : List α) (s : S), xs = pre ++ post → I pre s → Ok (loopS f post s) (I xs) := by
    intro post
    induction post with
    | nil => intro pre s e h; rw [List.append_nil] at e; subst e; exact ⟨s, rfl, h⟩
    | cons x post ih =>
      intro pre s e h
      obtain ⟨s', e1, h1⟩ := hs pre x post s e h
      obtain ⟨r, e2, h2⟩ := ih (pre ++ [x]) s' (by rw [e]; simp) h1
      exact ⟨r, by show (f x s).bind _ = _; rw [e1]; exact e2, h2⟩
  exact key xs [] s0 rfl h0
/-- a loop that never leaves -/
theorem Ok.loopN {f : α → S → Option (Ctl S ρ)} {xs : List α} {s0 : S} (I : List α → S → Prop) (h0 : I [] s0) (hs : ∀ pre x post s, xs = pre ++ x :: post → I pre s → Ok (f x s) fun c => ∃ s', c = .nx s' ∧ I (pre ++ [x]) s') : Ok (loopC f xs s0) fun c => ∃ s', c = .nx s' ∧ I xs s' := by
  have key : ∀ (post pre : List α) (s : S), xs = pre ++ post → I pre s → Ok (loopC f post s) fun c => ∃ s', c = .nx s' ∧ I xs s' := by
    intro post
    induction post with
    | nil => intro pre s e h; rw [List.append_nil] at e; subst e; exact ⟨_, rfl, s, rfl, h⟩
    | cons x post ih =>
      intro pre s e h
      obtain ⟨_, e1, s', rfl, h1⟩ := hs pre x post s e h
      obtain ⟨r, e2, h2⟩ := ih (pre ++ [x]) s' (by rw [e]; simp) h1
      exact ⟨r, by show (f x s).bind _ = _; rw [e1]; exact e2, h2⟩
  exact key xs [] s0 rfl h0
end
/-! ### texts as rows of numbers -/
def cl (s : Str) : List Nat := s.cps.toList
theorem cl_inj {a b : Str} (h : cl a = cl b) : a = b := by
  obtain ⟨a⟩ := a; obtain ⟨b⟩ := b
  exact congrArg Str.mk (Array.toList_inj.mp h)
theorem cl_len (s : Str) : s.length = (cl s).length := (Array.length_toList).symm
theorem cl_app (a b : Str) : cl (a ++ b) = cl a ++ cl b := Array.toList_append
theorem cl_sg (c : Nat) : cl ⟨#[c]⟩ = [c] := rfl
theorem sIx_nn {n d : Nat} {k : Int} (h : 0 ≤ k) : HT.sIx n d (some k) = min k.toNat n := by
  obtain ⟨m, rfl⟩ := Int.eq_ofNat_of_zero_le h
  rw [HT.sIx_nat]; rfl
theorem cut_to {α : Type} (xs : List α) {k : Int} (h : 0 ≤ k) : cut xs none (some k) = xs.take k.toNat := by
  unfold cut
  rw [HT.sIx_none, sIx_nn h, List.drop_zero, Nat.sub_zero]
  rcases Nat.le_total k.toNat xs.length with e | e
  · rw [Nat.min_eq_left e]
  · rw [Nat.min_eq_right e, List.take_of_length_le (Nat.le_refl _), List.take_of_length_le e]
theorem atI_nn {α : Type} {xs : List α} {i : Int} (h : 0 ≤ i) (h2 : i < xs.length) : atI xs i = xs[i.toNat]? := by
  unfold atI ixN
  rw [if_pos h, if_pos h2]; rfl
theorem ixS_ok {s : Str} {i : Int} (h : 0 ≤ i) (h2 : i < s.length) (h3 : s.length ≤ sizeLine) : Ok (ixS s i) fun z => ∃ c, (cl s)[i.toNat]? = some c ∧ z = ⟨#[c]⟩ := by
  unfold ixS
  refine Ok.gd (by unfold fitsS; exact decide_eq_true h3) ?_
  rw [atI_nn h (by rw [Array.length_toList]; exact h2)]
  have hl : i.toNat < (cl s).length := by rw [← cl_len]; omega
  refine Ok.bde (a := (cl s)[i.toNat]) (by show (cl s)[i.toNat]? = _; simp [hl]) ?_
  exact Ok.sm ⟨_, by simp [hl], rfl⟩
theorem sizeLine_big : (16000000 : Nat) ≤ sizeLine := by rw [sizeLine_eq]; decide
theorem fitsS_ok {s : Str} (h : s.length ≤ 16000000) : fitsS s = true := decide_eq_true (Nat.le_trans h sizeLine_big)
theorem fits_ok {α : Type} {s : List α} (h : s.length < 16000000) : fits s = true := decide_eq_true (Nat.lt_of_lt_of_le h sizeLine_big)
theorem fitsE_ok {α : Type} {s : List α} (h : s.length ≤ 16000000) : fitsE s = true := decide_eq_true (Nat.le_trans h sizeLine_big)
theorem catOk_ok {s t : Str} (h : s.length + t.length ≤ 16000000) : catOk s t = true := decide_eq_true (Nat.le_trans h sizeLine_big)
theorem rgOk_ok {a b : Int} (h : -16000000 ≤ a) (h2 : a ≤ 16000000) (h3 : -16000000 ≤ b) (h4 : b ≤ 16000000) : rgOk a b = true := by
  unfold rgOk
  rw [decide_eq_true (show -(2 ^ 62) ≤ a by omega), decide_eq_true (show a < 2 ^ 62 by omega), decide_eq_true (show -(2 ^ 62) ≤ b by omega), decide_eq_true (show b < 2 ^ 62 by omega)]; rfl
theorem mulOk_l {a b : Int} (h : -(2 ^ 64) < a) (h2 : a < 2 ^ 64) : mulOk a b = true := by
  unfold mulOk; rw [decide_eq_true h, decide_eq_true h2]; rfl
theorem mulOk_r {a b : Int} (h : -(2 ^ 64) < b) (h2 : b < 2 ^ 64) : mulOk a b = true := by
  unfold mulOk; rw [decide_eq_true h, decide_eq_true h2]; simp
theorem modOk_ok {a : Int} (h : 0 < a) : modOk a = true := decide_eq_true h
theorem divOk_ok {a : Int} (h : 0 < a) (h2 : a < 1073741824) : divOk a = true := by
  unfold divOk; rw [decide_eq_true h, decide_eq_true h2]; rfl
theorem rng_mem {a b i : Int} : i ∈ rng a b ↔ a ≤ i ∧ i < b := by
  unfold rng
  rw [List.mem_map]
  constructor
  · rintro ⟨j, hj, rfl⟩
    rw [List.mem_range] at hj
    omega
  · intro ⟨h1, h2⟩
    exact ⟨(i - a).toNat, by rw [List.mem_range]; omega, by omega⟩
theorem rng_len (a b : Int) : (rng a b).length = (b - a).toNat := by unfold rng; simp
theorem rng_at {a b : Int} {pre post : List Int} {x : Int} (h : rng a b = pre ++ x :: post) : x = a + pre.length ∧ pre = rng a x ∧ a ≤ x ∧ x < b := by
  have hx : x ∈ rng a b := by rw [h]; simp
  rw [rng_mem] at hx
  have hg : (rng a b)[pre.length]? = some x := by rw [h]; simp
  have hl : pre.length < (b - a).toNat := by
    have := congrArg List.length h
    rw [rng_len] at this
    simp at this
    omega
  have hx2 : x = a + pre.length := by
    unfold rng at hg
    rw [List.getElem?_map, List.getElem?_range hl] at hg
    exact (Option.some.inj hg).symm
  refine ⟨hx2, ?_, hx⟩
  have e : pre = (rng a b).take pre.length := by rw [h]; simp
  rw [e]
  unfold rng
  rw [← List.map_take, List.take_range]
  congr 2
  rw [hx2]; omega
/-! ### == of data: the sides are small -/
def okS (s : Str) : Prop := PyData.strOk s = true
theorem canAll {α : Type} {A : R α} (D : Dat A) : ∀ {xs : List α}, (∀ x ∈ xs, (D.d x).canLay0 = true) → PyData.canLayAll0 (xs.map D.d) = true
  | [], _ => rfl
  | x :: xs, h => by
    show ((D.d x).canLay0 && PyData.canLayAll0 (xs.map D.d)) = true
    rw [h x List.mem_cons_self, canAll D fun y hy => h y (List.mem_cons_of_mem _ hy)]; rfl
theorem depAll {α : Type} {A : R α} (D : Dat A) {n : Nat} : ∀ {xs : List α}, (∀ x ∈ xs, (D.d x).depth ≤ n) → PyData.depthAll (xs.map D.d) ≤ n
  | [], _ => Nat.zero_le _
  | x :: xs, h => by
    show max (D.d x).depth (PyData.depthAll (xs.map D.d)) ≤ n
    exact Nat.max_le.mpr ⟨h x List.mem_cons_self, depAll D fun y hy => h y (List.mem_cons_of_mem _ hy)⟩
theorem shp_of {α : Type} {A : R α} {D : Dat A} {a : α} (h : (D.d a).canLay0 = true) (h2 : (D.d a).depth ≤ 64) : shp D a = true := by
  show ((D.d a).canLay0 && decide ((D.d a).depth ≤ 64)) = true
  rw [h, decide_eq_true h2]; rfl
theorem shp_tS {xs : List Str} (h : ∀ x ∈ xs, okS x) : shp (dT dS) xs = true := shp_of (canAll dS h) (Nat.succ_le_of_lt (Nat.lt_of_le_of_lt (depAll dS (n := 0) fun _ _ => Nat.le_refl _) (by decide)))
theorem shp_lI (xs : List Int) : shp (dL dI) xs = true := shp_of (canAll dI fun _ _ => rfl) (Nat.succ_le_of_lt (Nat.lt_of_le_of_lt (depAll dI (n := 0) fun _ _ => Nat.le_refl _) (by decide)))
/-! ### shapes, by classes -/
class ShpD {α : Type} {A : R α} (D : Dat A) where
  ok : α → Prop
  n : Nat
  can : ∀ a, ok a → (D.d a).canLay0 = true
  dep : ∀ a, (D.d a).depth ≤ n
class ShpR {α : Type} {B : RR α} (E : DatR B) where
  ok : α → Prop
  n : Nat
  can : ∀ a, ok a → PyData.canLayAll0 (E.d a) = true
  dep : ∀ a, PyData.depthAll (E.d a) ≤ n
theorem shpD {α : Type} {A : R α} {D : Dat A} [i : ShpD D] {a : α} (h : i.ok a) (hn : i.n ≤ 64 := by decide) : shp D a = true := shp_of (i.can a h) (Nat.le_trans (i.dep a) hn)
instance sI : ShpD dI := ⟨fun _ => True, 0, fun _ _ => rfl, fun _ => Nat.le_refl _⟩
instance sB : ShpD dB := ⟨fun _ => True, 0, fun _ _ => rfl, fun _ => Nat.le_refl _⟩
instance sS : ShpD dS := ⟨okS, 0, fun _ h => h, fun _ => Nat.le_refl _⟩
instance sL {α : Type} {A : R α} {D : Dat A} [i : ShpD D] : ShpD (dL D) := ⟨fun xs => ∀ x ∈ xs, i.ok x, i.n + 1, fun xs h => canAll D fun x hx => i.can x (h x hx), fun xs => by
  show PyData.depthAll (xs.map D.d) + 1 ≤ _
  have := depAll D (n := i.n) (xs := xs) fun x _ => i.dep x
  omega⟩
instance sT {α : Type} {A : R α} {D : Dat A} [i : ShpD D] : ShpD (dT D) := ⟨fun xs => ∀ x ∈ xs, i.ok x, i.n + 1, fun xs h => canAll D fun x hx => i.can x (h x hx), fun xs => by
  show PyData.depthAll (xs.map D.d) + 1 ≤ _
  have := depAll D (n := i.n) (xs := xs) fun x _ => i.dep x
  omega⟩
instance s2 {α β : Type} {A : R α} {B : R β} {D : Dat A} {E : Dat B} [i : ShpD D] [j : ShpD E] : ShpD (d2 D E) := ⟨fun a => i.ok a.1 ∧ j.ok a.2, max i.n j.n + 1, fun a h => by
  show ((D.d a.1).canLay0 && ((E.d a.2).canLay0 && true)) = true
  rw [i.can _ h.1, j.can _ h.2]; rfl, fun a => by
  show max (D.d a.1).depth (max (E.d a.2).depth 0) + 1 ≤ _
  have h1 := i.dep a.1
  have h2 := j.dep a.2
  omega⟩
def optOk {α : Type} (P : α → Prop) : Option α → Prop
  | none => True
  | some a => P a
instance sO {α : Type} {A : R α} {D : Dat A} [NotNone D] [i : ShpD D] : ShpD (dO D) := ⟨optOk i.ok, i.n, fun a h => by
  cases a with
  | none => rfl
  | some a => exact i.can a h, fun a => by
  cases a with
  | none => exact Nat.zero_le _
  | some a => exact i.dep a⟩
instance sr1 {α : Type} {A : R α} {D : Dat A} [i : ShpD D] : ShpR (e1 D) := ⟨i.ok, i.n, fun a h => by
  show ((D.d a).canLay0 && true) = true
  rw [i.can _ h]; rfl, fun a => by
  show max (D.d a).depth 0 ≤ _
  have := i.dep a
  omega⟩
instance src {α β : Type} {A : R α} {B : RR β} {D : Dat A} {E : DatR B} [i : ShpD D] [j : ShpR E] : ShpR (ec D E) := ⟨fun a => i.ok a.1 ∧ j.ok a.2, max i.n j.n, fun a h => by
  show ((D.d a.1).canLay0 && PyData.canLayAll0 (E.d a.2)) = true
  rw [i.can _ h.1, j.can _ h.2]; rfl, fun a => by
  show max (D.d a.1).depth (PyData.depthAll (E.d a.2)) ≤ _
  have h1 := i.dep a.1
  have h2 := j.dep a.2
  omega⟩
instance sLr {α : Type} {B : RR α} {E : DatR B} [i : ShpR E] : ShpD (dLr E) := ⟨i.ok, i.n + 1, fun a h => i.can a h, fun a => Nat.succ_le_succ (i.dep a)⟩
instance sTr {α : Type} {B : RR α} {E : DatR B} [i : ShpR E] : ShpD (dTr E) := ⟨i.ok, i.n + 1, fun a h => i.can a h, fun a => Nat.succ_le_succ (i.dep a)⟩
end Gl
namespace Law
open PySem PySem.Spec PyProof.Rows L2 Gl
def top (i : Nat) : Stmt := PySem.Challenge.pw_gluedlines_k02_forms_made_or_refused.main.body.getD i (.Pass ⟨0, 0, 0, 0⟩)
abbrev s_law_all_signs : Stmt := top 42
abbrev s_law_is_fixed : Stmt := top 46
abbrev s_law_first_bad : Stmt := top 47
abbrev s_Form_parts : Stmt := inClass (top 36) 5
abbrev s_is_line : Stmt := top 4
abbrev s_is_allowed : Stmt := top 34
abbrev s_Form___init__ : Stmt := inClass (top 36) 3
abbrev s_law_made : Stmt := top 48
abbrev s_law_other : Stmt := top 49
abbrev s_law_right : Stmt := top 50
abbrev s_law_take : Stmt := top 41
abbrev s_law_good : Stmt := top 43
abbrev s_law_bad : Stmt := top 44
abbrev s_law_drawn : Stmt := top 45
abbrev s_law_pool : Stmt := top 40
abbrev s_law : Stmt := top 51
abbrev si_NoForm : Stmt := inClass (top 18) 0
def fn : List He.DefD := [⟨("_law_all_signs", none), "_law_all_signs", "_law_all_signs", defArgs s_law_all_signs, defBody s_law_all_signs, defScope s_law_all_signs, [], []⟩,
  ⟨("_law_is_fixed", none), "_law_is_fixed", "_law_is_fixed", defArgs s_law_is_fixed, defBody s_law_is_fixed, defScope s_law_is_fixed, [], []⟩,
  ⟨("_law_first_bad", none), "_law_first_bad", "_law_first_bad", defArgs s_law_first_bad, defBody s_law_first_bad, defScope s_law_first_bad, [], []⟩,
  ⟨("Form", some "parts"), "parts", "Form.parts", defArgs s_Form_parts, defBody s_Form_parts, defScope s_Form_parts, [], []⟩,
  ⟨("is_line", none), "is_line", "is_line", defArgs s_is_line, defBody s_is_line, defScope s_is_line, [], []⟩,
  ⟨("is_allowed", none), "is_allowed", "is_allowed", defArgs s_is_allowed, defBody s_is_allowed, defScope s_is_allowed, [], []⟩,
  ⟨("Form", some "__init__"), "__init__", "Form.__init__", defArgs s_Form___init__, defBody s_Form___init__, defScope s_Form___init__, [], []⟩,
  ⟨("_law_made", none), "_law_made", "_law_made", defArgs s_law_made, defBody s_law_made, defScope s_law_made, [], []⟩,
  ⟨("_law_other", none), "_law_other", "_law_other", defArgs s_law_other, defBody s_law_other, defScope s_law_other, [], []⟩,
  ⟨("_law_right", none), "_law_right", "_law_right", defArgs s_law_right, defBody s_law_right, defScope s_law_right, [], []⟩,
  ⟨("_law_take", none), "_law_take", "_law_take", defArgs s_law_take, defBody s_law_take, defScope s_law_take, [], []⟩,
  ⟨("_law_good", none), "_law_good", "_law_good", defArgs s_law_good, defBody s_law_good, defScope s_law_good, [], []⟩,
  ⟨("_law_bad", none), "_law_bad", "_law_bad", defArgs s_law_bad, defBody s_law_bad, defScope s_law_bad, [], []⟩,
  ⟨("_law_drawn", none), "_law_drawn", "_law_drawn", defArgs s_law_drawn, defBody s_law_drawn, defScope s_law_drawn, [], []⟩,
  ⟨("_law_pool", none), "_law_pool", "_law_pool", defArgs s_law_pool, defBody s_law_pool, defScope s_law_pool, [], []⟩,
  ⟨("law", none), "law", "law", defArgs s_law, defBody s_law, defScope s_law, [], []⟩]
def fa : List He.Fa := [.glo "_law_all_signs", .glo "_law_is_fixed", .glo "_law_first_bad", .glo "is_line", .glo "is_allowed", .glo "_law_made", .glo "_law_other", .glo "_law_right", .glo "_law_take", .glo "_law_good", .glo "_law_bad", .glo "_law_drawn", .glo "_law_pool", .glo "law", .glo "Form", .cls "Form", .noat "Form" "pieces", .meth "Form" "parts", .mkr "Form", .glo "GlueError", .glo "NoChange", .glo "NoCrew", .glo "NoForm", .glo "NoGrammar", .glo "NoName", .glo "NoOutput", .glo "NoRow", .glo "NoRows", .glo "NoRule", .glo "NoText", .glo "NotEnough", .glo "NotRight", .glo "Pattern", .free "ValueError", .free "bool", .free "int", .free "isinstance", .free "len", .free "max", .free "min", .free "range", .free "str", .free "tuple", .str "ANY_CELL" "<any>", .glo "FREE_CELLS", .int "MOST_PARTS" 4, .int "MOST_SIGNS" 4, .str "SIGNS" " #-.0123456789:>ABCDEFGHIJKLMNOPQRSTUVWXYZabcdefghijklmnopqrstuvwxyz"]
abbrev FnU : Type := Option (Str × Str × Arguments × FuncBody × Scope × Addr × Addr)
def fwDrop (z : Str × Str × Arguments × FuncBody × Scope × Addr × List (Str × Addr) × Addr) : Str × Str × Arguments × FuncBody × Scope × Addr × Addr := (z.1, z.2.1, z.2.2.1, z.2.2.2.1, z.2.2.2.2.1, z.2.2.2.2.2.1, z.2.2.2.2.2.2.2)
theorem fw_mk {L : He.FnW} {n q : Str} {a : Arguments} {b : FuncBody} {s : Scope} {m m' : Addr} {c : List (Str × Addr)} (h : L.map fwDrop = some (n, q, a, b, s, m, m')) (k : decide (L.map (fun z => z.2.2.2.2.2.2.1) = some c) = true) : L = some (n, q, a, b, s, m, c, m') := by
  have k := of_decide_eq_true k
  cases L with
  | none => cases h
  | some z =>
    obtain ⟨z1, z2, z3, z4, z5, z6, z7, z8⟩ := z
    have k : z7 = c := Option.some.inj k
    have h : (z1, z2, z3, z4, z5, z6, z8) = (n, q, a, b, s, m, m') := Option.some.inj h
    simp only [Prod.mk.injEq] at h
    obtain ⟨h1, h2, h3, h4, h5, h6, h7⟩ := h
    rw [k, h1, h2, h3, h4, h5, h6, h7]
def fwL_NoForm (K : PySem.W.Frag) : He.FnW := He.fnW K ("NoForm", some "__init__")
def lhs_NoForm (K : PySem.W.Frag) : FnU := (fwL_NoForm K).map fwDrop
def rhs_NoForm : FnU := some (("__init__" : Str), ("NoForm.__init__" : Str), defArgs si_NoForm, FuncBody.stmts (defBody si_NoForm), defScope si_NoForm, mainGlobals, builtinsNs)
def clo_NoForm (K : PySem.W.Frag) : List (Str × Addr) := [(("__class__" : Str), ccOf K "NoForm")]
def fw_NoForm (K : PySem.W.Frag) : Prop := He.fnW K ("NoForm", some "__init__") = some (("__init__" : Str), ("NoForm.__init__" : Str), defArgs si_NoForm, FuncBody.stmts (defBody si_NoForm), defScope si_NoForm, mainGlobals, [(("__class__" : Str), ccOf K "NoForm")], builtinsNs)
def tabs (P : Program) (K : PySem.W.Frag) : Bool := (He.tupB K "FREE_CELLS" [.str "<digits>", .str "<word>", .str "<any>"] && (cvB K (He.ga K "Form") "ANY" "<any>" && (cvB K (He.ga K "Form") "DIGITS" "<digits>" && (cvB K (He.ga K "Form") "WORD" "<word>" && (errB P K "NoForm" "NoForm.__init__" ["at"] && (exmB K "NoForm" "NoForm" && (isFormB K && (isEB K (He.ga K "NoForm") && (kitB K (He.ga K "NoForm") (.ref (He.ga K "GlueError")) true && (kitB K (He.ga K "NoForm") (.type "ValueError") true && (decide (PySem.W.kitAny K (.ref (He.ga K "NoForm")) [.ref (He.ga K "NoChange"), .ref (He.ga K "NoCrew"), .ref (He.ga K "NoGrammar"), .ref (He.ga K "NoName"), .ref (He.ga K "NoOutput"), .ref (He.ga K "NoRow"), .ref (He.ga K "NoRows"), .ref (He.ga K "NoRule"), .ref (He.ga K "NoText")] = some false) && (decide (PySem.W.kitAny K (.ref (He.ga K "NoForm")) [.ref (He.ga K "NotEnough"), .ref (He.ga K "NotRight")] = some false) && true))))))))))))
/-! the top, run in the kernel -/
abbrev RR : PySem.W.OpenRow := PySem.W.OpenLaw.row PySem.Challenge.rw_gluedlines_k02_forms_made_or_refused
def loose0 : List PySem.Str := [("SIGNS" : PySem.Str), ("DIGIT_SIGNS" : PySem.Str), ("LETTER_SIGNS" : PySem.Str), ("is_line" : PySem.Str), ("DIGITS_CELL" : PySem.Str), ("WORD_CELL" : PySem.Str), ("ANY_CELL" : PySem.Str), ("FREE_CELLS" : PySem.Str), ("cells_of" : PySem.Str), ("takes" : PySem.Str), ("closed" : PySem.Str), ("started" : PySem.Str), ("moved" : PySem.Str), ("is_done" : PySem.Str), ("GlueError" : PySem.Str), ("NoForm" : PySem.Str), ("NoText" : PySem.Str), ("NoGrammar" : PySem.Str), ("NoCrew" : PySem.Str), ("NoRows" : PySem.Str), ("NoRule" : PySem.Str), ("NotRight" : PySem.Str), ("NotEnough" : PySem.Str), ("NoOutput" : PySem.Str), ("NoChange" : PySem.Str), ("NoRow" : PySem.Str), ("NoName" : PySem.Str), ("MOST_FORMS" : PySem.Str), ("MOST_PARTS" : PySem.Str), ("MOST_SIGNS" : PySem.Str), ("is_allowed" : PySem.Str), ("Pattern" : PySem.Str), ("Form" : PySem.Str), ("Both" : PySem.Str), ("Either" : PySem.Str), ("_law_pool" : PySem.Str), ("_law_take" : PySem.Str), ("_law_all_signs" : PySem.Str), ("_law_good" : PySem.Str), ("_law_bad" : PySem.Str)]
def loose1 : List PySem.Str := [("_law_drawn" : PySem.Str), ("_law_is_fixed" : PySem.Str), ("_law_first_bad" : PySem.Str), ("_law_made" : PySem.Str), ("_law_other" : PySem.Str), ("_law_right" : PySem.Str)]
def loose : List PySem.Str := loose0 ++ loose1
def refsN (o : Obj) : List Addr := match o.data with
  | .seq its _ => its.toList.flatMap He.refV
  | .dict es _ => es.toList.flatMap fun e => He.refV e.val
  | .func fd => He.refV fd.code ++ He.refV fd.defaults ++ He.refV fd.kwdefaults ++ fd.closure.map (·.2)
  | .cls cd => [cd.ns]
  | .fields vs => (match o.cls with
    | .type "code" => []
    | _ => vs.toList.flatMap He.refV)
  | .cell (some v) => He.refV v
  | _ => []
def levG (g : Addr → Option Obj) : Nat → List Addr → List Addr
  | 0, as => as
  | n + 1, as => as ++ levG g n (as.flatMap fun a => match g a with
    | some o => refsN o
    | none => [])
def obK (K : PySem.W.Frag) : Bool × List FnU × He.AlD := (tabs RR.prog K && decide ((fwL_NoForm K).map (fun z => z.2.2.2.2.2.2.1) = some (clo_NoForm K)), [lhs_NoForm K], He.obsD fa fn K)
def obG (g : Addr → Option Obj) : Bool × List FnU × He.AlD := obK (He.frG g (cStatics :: levG g 5 [mainGlobals]))
def hk : PySem.W.Hook where
  α := Bool × List FnU × He.AlD
  obs := fun s => obG s.heap.get?
  val := fun _ => (true, [rhs_NoForm], He.valD fn)
  says := fun _ h => ∃ K : PySem.W.Frag, K.In h ∧ obK K = (true, [rhs_NoForm], He.valD fn)
  of := fun _ _ e => ⟨_, He.frG_in, e⟩
  keeps := fun _ _ _ ⟨K, hK, c⟩ k => ⟨K, PySem.W.Frag.In.keeps hK k, c⟩
def ob (s : PySem.W.SharedT) : Bool × List FnU × He.AlD := obG (HandSHeadRun.getT s)
theorem ob_eq (s : PySem.W.SharedT) : ob s = hk.obs s.abs := by
  have e : HandSHeadRun.getT s = s.abs.heap.get? := funext (HandSHeadRun.getT_eq s)
  show obG (HandSHeadRun.getT s) = obG s.abs.heap.get?
  rw [e]
theorem run_join {α β γ δ : Type} {x : Option δ} {A : δ → α} {B : δ → β} {C : δ → γ} {a : α} {b : β} {c : γ} (h1 : x.map A = some a) (h2 : x.map B = some b) (h3 : x.map C = some c) : x.map (fun s => (A s, B s, C s)) = some (a, b, c) := by
  cases x with
  | none => cases h1
  | some s =>
    have e1 : A s = a := Option.some.inj h1
    have e2 : B s = b := Option.some.inj h2
    have e3 : C s = c := Option.some.inj h3
    subst e1 e2 e3
    rfl
theorem runA (w : World) (os : OsState) : (HandSHeadRun.endF (HandSHeadRun.stepQ (HandSHeadRun.denQ HandSHeadRun.tabQ) RR.prog w) 60000 RR.prog w os).map (fun s => HandSHeadRun.looksF RR.prog (PySem.W.boot_heap w.params) s.abs) = some true := by kernel_rfl
theorem runB (w : World) (os : OsState) : (HandSHeadRun.endF (HandSHeadRun.stepQ (HandSHeadRun.denQ HandSHeadRun.tabQ) RR.prog w) 60000 RR.prog w os).map (fun s => HandSHeadRun.seenQ (PySem.W.view RR.prog [51]) loose (PySem.importedModules RR.prog.main.body) (fun s => PySem.W.xlAt (PySem.W.view RR.prog [51]) [] s && PySem.W.recOk RR.toRowW.records s) s.abs) = some (PySem.W.openGood (PySem.W.view RR.prog [51]) loose) := by kernel_rfl
theorem runC (w : World) (os : OsState) : (HandSHeadRun.endF (HandSHeadRun.stepQ (HandSHeadRun.denQ HandSHeadRun.tabQ) RR.prog w) 60000 RR.prog w os).map ob = some (hk.val w) := by kernel_rfl
theorem run (w : World) : HandSHeadRun.RunEq RR (PySem.W.view RR.prog [51]) hk ob 60000 loose w := fun os => run_join (runA w os) (runB w os) (runC w os)


def m_law_all_signs  : Option Str :=
  (some (" #-.0123456789:>ABCDEFGHIJKLMNOPQRSTUVWXYZabcdefghijklmnopqrstuvwxyz" : Str))
def m_law_is_fixed_b1  (x41 : Str) (s43 : Unit) : Option (Option Str × Unit) :=
  ((m_law_all_signs).bind fun t60 => if (!inS x41 t60) = true then (some (some x41, ())) else some (none, ()))
def m_law_is_fixed_b2  (x99 : Str) (s101 : Unit) : Option (Option Str × Unit) :=
  ((m_law_all_signs).bind fun t118 => if (!inS x99 t118) = true then (some (some x99, ())) else some (none, ()))
def m_law_is_fixed_b3  (x105 : Str) (s107 : Unit) : Option (Option Str × Unit) :=
  ((m_law_all_signs).bind fun t124 => if (!inS x105 t124) = true then (some (some x105, ())) else some (none, ()))
def m_law_is_fixed (a__law_part : Th) : Option Bool :=
  ((if (!(thIs "str" a__law_part)) = true then some (true) else ((thS a__law_part).bind fun t22 => some ((decide (t22 ∈ [("<digits>" : Str), ("<word>" : Str), ("<any>" : Str)]))))).bind fun t10 => if t10 = true then (some false) else ((thS a__law_part).bind fun t32 => gd (fitsS t32) <| (if (decide (1 ≤ ((t32).length : Int)) && decide (((t32).length : Int) ≤ 4)) = true then (gd (fitsE (sgns t32)) <| (comp m_law_is_fixed_b3 (sgns t32) ()).bind fun t101 => gd (shp (dL dS) t101.1) <| gd (shp (dL dS) ([] : List Str)) <| some ((decide (t101.1 = ([] : List Str))))) else some (false)).bind fun t94 => some t94))
def m_law_first_bad_b1 (a__law_parts : (List Th)) (x7 : Int) (s9 : Unit) : Option (Ctl Unit Int) :=
  ((atI a__law_parts x7).bind fun t22 => (if (thIs "str" t22) = true then ((thS t22).bind fun t47 => some ((decide (t47 ∈ [("<digits>" : Str), ("<word>" : Str), ("<any>" : Str)])))) else some (false)).bind fun t35 => (if (decide (3 < x7)) = true then some (true) else ((if (!t35) = true then ((m_law_is_fixed (t22)).bind fun t104 => some ((!t104))) else some (false)).bind fun t98 => some (t98))).bind fun t84 => if t84 = true then (some (.rt x7)) else ((if (!t35) = true then ((if (decide (0 < x7)) = true then ((atI a__law_parts (x7 - 1)).bind fun t187 => (m_law_is_fixed (t187)).bind fun t191 => some (t191)) else some (false)).bind fun t181 => some (t181)) else some (false)).bind fun t163 => (if t163 = true then some (true) else ((thS t22).bind fun t250 => (if (decide (t250 = ("<any>" : Str))) = true then ((thAll (cut a__law_parts none (some x7))).bind fun t274 => some ((decide (("<any>" : Str) ∈ t274)))) else some (false)).bind fun t262 => some (t262))).bind fun t244 => if t244 = true then (some (.rt x7)) else (some (.nx ()))))
def m_law_first_bad (a__law_parts : (List Th)) : Option Int :=
  (gd (rgOk 0 ((a__law_parts).length : Int)) <| (loopC (m_law_first_bad_b1 a__law_parts) (rng 0 ((a__law_parts).length : Int)) ()).bind fun t2 => aft t2 fun s294 => some (-1))
def m_Form_parts (a_self : (List Str)) : Option (List Str) :=
  (some a_self)
def m_is_line_b1  (x28 : Str) (s30 : Unit) : Option (Ctl Unit Bool) :=
  (if (!inS x28 (" #-.0123456789:>ABCDEFGHIJKLMNOPQRSTUVWXYZabcdefghijklmnopqrstuvwxyz" : Str)) = true then (some (.rt false)) else (some (.nx ())))
def m_is_line (a_thing : Th) : Option Bool :=
  ((if (!(thIs "str" a_thing)) = true then some (true) else ((thS a_thing).bind fun t10 => some ((decide (t10 = ("" : Str)))))).bind fun t4 => if t4 = true then (some false) else ((thS a_thing).bind fun t20 => (loopC m_is_line_b1 (sgns t20) ()).bind fun t23 => aft t23 fun s46 => some true))
def m_is_allowed (a_parts : (List Th)) (a_at : Int) : Option Bool :=
  ((atI a_parts a_at).bind fun t1 => if ((decide ((4) ≤ a_at)) || (!(thIs "str" t1))) = true then (some false) else ((thS t1).bind fun t6 => if (decide (t6 = ("<any>" : Str))) = true then ((thAll (cut a_parts none (some a_at))).bind fun t16 => some (!decide (("<any>" : Str) ∈ t16))) else (if (decide (t6 ∈ (["<digits>", "<word>", "<any>"] : List Str))) = true then (some true) else ((if (decide (0 < a_at)) = true then ((atI a_parts (a_at - 1)).bind fun t35 => (thS t35).bind fun t40 => some ((!decide (t40 ∈ (["<digits>", "<word>", "<any>"] : List Str))))) else some (false)).bind fun t29 => if t29 = true then (some false) else ((m_is_line ((Th.d (PyData.str (t6))))).bind fun t51 => (if t51 = true then (gd (fitsS t6) <| some ((decide (((t6).length : Int) ≤ (4))))) else some (false)).bind fun t60 => some t60)))))
def m_Form___init___vx_b1 (a_parts : (List Th)) (x8 : Int) (s10 : Unit) : Option (Ctl Unit (Except (Option Int) (List Str))) :=
  ((m_is_allowed (a_parts) (x8)).bind fun t21 => if (!t21) = true then (some (.rt (.error ((some x8))))) else (some (.nx ())))
def m_Form___init___vx (a_parts : (List Th)) : Option (Except (Option Int) (List Str)) :=
  (if (decide (((a_parts).length : Int) = 0)) = true then (some (.error (none))) else (gd (rgOk 0 ((a_parts).length : Int)) <| (loopC (m_Form___init___vx_b1 a_parts) (rng 0 ((a_parts).length : Int)) ()).bind fun t3 => aft t3 fun s34 => (thAll a_parts).bind fun t40 => some (.ok (t40))))
def m_law_made_vx (a__law_parts : (List Th)) : Option (Except (Option Int) (List Str)) :=
  (if ((a__law_parts).isEmpty) = true then ((m_Form___init___vx ([] : List Th)).bind fun t8 => exB t8 fun t10 => some (.ok t10)) else (if (decide (((a__law_parts).length : Int) = 1)) = true then ((atI a__law_parts 0).bind fun t27 => (m_Form___init___vx [t27]).bind fun t31 => exB t31 fun t33 => some (.ok t33)) else (if (decide (((a__law_parts).length : Int) = 2)) = true then ((atI a__law_parts 0).bind fun t50 => (atI a__law_parts 1).bind fun t54 => (m_Form___init___vx [t50, t54]).bind fun t58 => exB t58 fun t60 => some (.ok t60)) else (if (decide (((a__law_parts).length : Int) = 3)) = true then ((atI a__law_parts 0).bind fun t77 => (atI a__law_parts 1).bind fun t81 => (atI a__law_parts 2).bind fun t85 => (m_Form___init___vx [t77, t81, t85]).bind fun t89 => exB t89 fun t91 => some (.ok t91)) else (if (decide (((a__law_parts).length : Int) = 4)) = true then ((atI a__law_parts 0).bind fun t108 => (atI a__law_parts 1).bind fun t112 => (atI a__law_parts 2).bind fun t116 => (atI a__law_parts 3).bind fun t120 => (m_Form___init___vx [t108, t112, t116, t120]).bind fun t124 => exB t124 fun t126 => some (.ok t126)) else ((atI a__law_parts 0).bind fun t142 => (atI a__law_parts 1).bind fun t146 => (atI a__law_parts 2).bind fun t150 => (atI a__law_parts 3).bind fun t154 => (atI a__law_parts 4).bind fun t158 => (m_Form___init___vx [t142, t146, t150, t154, t158]).bind fun t162 => exB t162 fun t164 => some (.ok t164)))))))
def m_law_other  : Option Bool :=
  (some false)
def m_law_right (a__law_parts : (List Th)) : Option Bool :=
  ((m_law_first_bad (a__law_parts)).bind fun t1 => (m_law_made_vx (a__law_parts)).bind fun t9 => exT t9 (fun (x18 : (Option Int)) => (if ((a__law_parts).isEmpty) = true then ((if ((x18).isNone) = true then ((m_law_other).bind fun t53 => some ((!t53))) else some (false)).bind fun t47 => some t47) else ((if (oIs x18 true false) = true then ((if (!(oIs x18 false false)) = true then (gd (shp (dO dI) x18) <| gd (shp (dO dI) (some t1)) <| (if (decide (x18 = (some t1))) = true then ((m_law_other).bind fun t208 => some ((!t208))) else some (false)).bind fun t202 => some (t202)) else some (false)).bind fun t184 => some (t184)) else some (false)).bind fun t145 => some t145))) fun t11 => (m_Form_parts (t11)).bind fun t235 => (if (!(a__law_parts).isEmpty) = true then ((if (decide (t1 = (-1))) = true then ((thAll a__law_parts).bind fun t312 => gd (shp (dT dS) t235) <| gd (shp (dT dS) t312) <| some (((decide (t235 = t312)) && true))) else some (false)).bind fun t300 => some (t300)) else some (false)).bind fun t283 => some t283)
def m_law_take (a__law_pool_here : (Int × Int)) (a__law_many : Int) : Option (Int × (Int × Int)) :=
  (if (decide (0 < (a__law_pool_here).1)) = true then (gd (modOk a__law_many) <| gd (divOk a__law_many) <| some (((a__law_pool_here).1 % a__law_many), (((a__law_pool_here).1 / a__law_many), (a__law_pool_here).2))) else (gd (mulOk (a__law_pool_here).2 48271) <| gd (modOk 2147483647) <| gd (mulOk (((a__law_pool_here).1, ((((a__law_pool_here).2 * 48271) + 11) % 2147483647))).2 (((a__law_pool_here).1, ((((a__law_pool_here).2 * 48271) + 11) % 2147483647))).2) <| gd (modOk 2147483629) <| gd (divOk 64) <| gd (modOk a__law_many) <| some ((((((((a__law_pool_here).1, ((((a__law_pool_here).2 * 48271) + 11) % 2147483647))).2 * (((a__law_pool_here).1, ((((a__law_pool_here).2 * 48271) + 11) % 2147483647))).2) % 2147483629) / 64) % a__law_many), ((a__law_pool_here).1, ((((a__law_pool_here).2 * 48271) + 11) % 2147483647)))))
def m_law_good_b1  (x18 : Int) (s20 : ((Int × Int) × Str)) : Option ((Int × Int) × Str) :=
  ((m_law_all_signs).bind fun t32 => (m_law_take (s20.1) (68)).bind fun t40 => (ixS t32 t40.1).bind fun t50 => gd (catOk s20.2 t50) <| some (t40.2, (s20.2 ++ t50)))
def m_law_good (a__law_pool_here : (Int × Int)) : Option (Str × (Int × Int)) :=
  ((m_law_take (a__law_pool_here) (4)).bind fun t1 => gd (rgOk 0 (1 + t1.1)) <| (loopS m_law_good_b1 (rng 0 (1 + t1.1)) (t1.2, ("" : Str))).bind fun t12 => some (t12.2, t12.1))
def m_law_bad (a__law_pool_here : (Int × Int)) : Option (Th × (Int × Int)) :=
  ((m_law_good (a__law_pool_here)).bind fun t1 => (ixS t1.1 0).bind fun t11 => gd (repOk t11 5) <| (m_law_take (t1.2) (5)).bind fun t14 => (ixS ("&(_<~" : Str) t14.1).bind fun t24 => gd (catOk ("a" : Str) t24) <| gd (fits2 [(Th.d (PyData.str (("" : Str)))), (Th.d (PyData.str ((repS t11 5)))), (Th.d (PyData.str ((("a" : Str) ++ t24)))), (Th.d (PyData.str (("<Any>" : Str)))), (Th.d (PyData.str (("<digit>" : Str)))), (Th.d (PyData.str (("<word> " : Str)))), (Th.d (PyData.str (("<>" : Str))))] [(Th.d (PyData.none)), (Th.d (PyData.int (5))), (Th.d (PyData.bool (true))), (Th.d ((dL dS).d [("a" : Str)]))]) <| (m_law_take (t14.2) (11)).bind fun t52 => (atI ([(Th.d (PyData.str (("" : Str)))), (Th.d (PyData.str ((repS t11 5)))), (Th.d (PyData.str ((("a" : Str) ++ t24)))), (Th.d (PyData.str (("<Any>" : Str)))), (Th.d (PyData.str (("<digit>" : Str)))), (Th.d (PyData.str (("<word> " : Str)))), (Th.d (PyData.str (("<>" : Str))))] ++ [(Th.d (PyData.none)), (Th.d (PyData.int (5))), (Th.d (PyData.bool (true))), (Th.d ((dL dS).d [("a" : Str)]))]) t52.1).bind fun t62 => some (t62, t52.2))
def m_law_drawn_b1 (t10 : (Int × (Int × Int))) (x38 : Int) (s40 : ((Int × Int) × (List Th))) : Option ((Int × Int) × (List Th)) :=
  ((m_law_take (s40.1) (7)).bind fun t56 => (if (decide (t10.1 = 0)) = true then ((m_law_take (t56.2) (3)).bind fun t83 => some ((decide (t83.1 = 0)), t83.2)) else some (false, t56.2)).bind fun t76 => if t76.1 = true then ((m_law_bad (t76.2)).bind fun t103 => gd (fits s40.2) <| some (t103.2, (s40.2 ++ [t103.1]))) else (if (decide (t56.1 < 4)) = true then ((m_law_good (t76.2)).bind fun t120 => gd (fits s40.2) <| some (t120.2, (s40.2 ++ [(Th.d (PyData.str (t120.1)))]))) else ((atI [("<digits>" : Str), ("<word>" : Str), ("<any>" : Str)] (t56.1 - 4)).bind fun t143 => gd (fits s40.2) <| some (t76.2, (s40.2 ++ [(Th.d (PyData.str (t143)))])))))
def m_law_drawn (a__law_pool_here : (Int × Int)) : Option ((List Th) × (Int × Int)) :=
  ((m_law_take (a__law_pool_here) (3)).bind fun t10 => (m_law_take (t10.2) (6)).bind fun t20 => gd (rgOk 0 t20.1) <| (loopS (m_law_drawn_b1 t10) (rng 0 t20.1) (t20.2, ([] : List Th))).bind fun t31 => some (t31.2, t31.1))
def m_law_pool (a__law_script : (List Int)) (a__law_k : Int) : Option (Int × Int) :=
  (((gd (shp (dL dI) a__law_script) <| gd (shp (dL dI) ([] : List Int)) <| if (!decide (a__law_script = ([] : List Int))) = true then (gd (modOk ((a__law_script).length : Int)) <| (atI a__law_script (a__law_k % ((a__law_script).length : Int))).bind fun t14 => some (t14)) else (some (0)))).bind fun (t1 : Int) => gd (modOk 2147483629) <| gd (mulOk 104729 a__law_k) <| gd (mulOk (((t1 % 2147483629) + (104729 * a__law_k)) + 11) 48271) <| gd (modOk 2147483647) <| gd (powOk 10 18) <| gd (mulOk t1 (b2I ((decide ((10 ^ (18 : Int).toNat) ≤ t1))))) <| some ((t1 * (b2I ((decide ((10 ^ (18 : Int).toNat) ≤ t1))))), (((((t1 % 2147483629) + (104729 * a__law_k)) + 11) * 48271) % 2147483647)))
def m_law_b1 (a__law_script : (List Int)) (x62 : Int) (s64 : Unit) : Option (Ctl Unit Bool) :=
  ((m_law_pool (a__law_script) (x62)).bind fun t75 => (m_law_drawn (t75)).bind fun t86 => (m_law_right (t86.1)).bind fun t96 => if (!t96) = true then (some (.rt false)) else (some (.nx ())))
def m_law (a__law_script : (List Int)) : Option Bool :=
  (gd (shp (dL dS) [("<digits>" : Str), ("<word>" : Str), ("<any>" : Str)]) <| gd (shp (dL dS) [("<digits>" : Str), ("<word>" : Str), ("<any>" : Str)]) <| (if (opB (!decide ([("<digits>" : Str), ("<word>" : Str), ("<any>" : Str)] = [("<digits>" : Str), ("<word>" : Str), ("<any>" : Str)]))) = true then some (true) else ((m_law_right (([] : List Th))).bind fun t41 => some ((!t41)))).bind fun t29 => if t29 = true then (some false) else (gd (rgOk 0 (maxI 1 (minI 63 ((a__law_script).length : Int)))) <| (loopC (m_law_b1 a__law_script) (rng 0 (maxI 1 (minI 63 ((a__law_script).length : Int)))) ()).bind fun t57 => aft t57 fun s109 => some true))
theorem is_NoForm : PySem.OwnE.IS "NoForm.__init__" (defArgs si_NoForm) (defBody si_NoForm) (defScope si_NoForm) ["at"] where
  bd := ⟨_, _, _, _, _, _, _, _, _, rfl, .cons (.nil), fun _ _ _ _ => ⟨⟨_, rfl⟩, rfl, rfl⟩⟩
  bind := fun _ _ _ _ _ _ _ us hl => match us, hl with | [_, _], _ => rfl
  hd := ⟨_, rfl, rfl⟩
  nd := by decide +kernel
  loc := by decide +kernel
  cell := by decide +kernel
  co := rfl
  gen := rfl
  k := rfl
  hks := rfl
  hkc := rfl
  few := by decide
  some_ := by decide
structure Tx (P : Program) (K : PySem.W.Frag) (mg : Str → Option Value) : Prop where
  F_law_all_signs : FnD' K ("_law_all_signs", none) "_law_all_signs" "_law_all_signs" s_law_all_signs
  g_law_all_signs : mg "_law_all_signs" = some (.ref (He.ga K "_law_all_signs"))
  F_law_is_fixed : FnD' K ("_law_is_fixed", none) "_law_is_fixed" "_law_is_fixed" s_law_is_fixed
  g_law_is_fixed : mg "_law_is_fixed" = some (.ref (He.ga K "_law_is_fixed"))
  F_law_first_bad : FnD' K ("_law_first_bad", none) "_law_first_bad" "_law_first_bad" s_law_first_bad
  g_law_first_bad : mg "_law_first_bad" = some (.ref (He.ga K "_law_first_bad"))
  F_Form_parts : FnD' K ("Form", some "parts") "parts" "Form.parts" s_Form_parts
  F_is_line : FnD' K ("is_line", none) "is_line" "is_line" s_is_line
  g_is_line : mg "is_line" = some (.ref (He.ga K "is_line"))
  F_is_allowed : FnD' K ("is_allowed", none) "is_allowed" "is_allowed" s_is_allowed
  g_is_allowed : mg "is_allowed" = some (.ref (He.ga K "is_allowed"))
  F_Form___init__ : FnD' K ("Form", some "__init__") "__init__" "Form.__init__" s_Form___init__
  F_law_made : FnD' K ("_law_made", none) "_law_made" "_law_made" s_law_made
  g_law_made : mg "_law_made" = some (.ref (He.ga K "_law_made"))
  F_law_other : FnD' K ("_law_other", none) "_law_other" "_law_other" s_law_other
  g_law_other : mg "_law_other" = some (.ref (He.ga K "_law_other"))
  F_law_right : FnD' K ("_law_right", none) "_law_right" "_law_right" s_law_right
  g_law_right : mg "_law_right" = some (.ref (He.ga K "_law_right"))
  F_law_take : FnD' K ("_law_take", none) "_law_take" "_law_take" s_law_take
  g_law_take : mg "_law_take" = some (.ref (He.ga K "_law_take"))
  F_law_good : FnD' K ("_law_good", none) "_law_good" "_law_good" s_law_good
  g_law_good : mg "_law_good" = some (.ref (He.ga K "_law_good"))
  F_law_bad : FnD' K ("_law_bad", none) "_law_bad" "_law_bad" s_law_bad
  g_law_bad : mg "_law_bad" = some (.ref (He.ga K "_law_bad"))
  F_law_drawn : FnD' K ("_law_drawn", none) "_law_drawn" "_law_drawn" s_law_drawn
  g_law_drawn : mg "_law_drawn" = some (.ref (He.ga K "_law_drawn"))
  F_law_pool : FnD' K ("_law_pool", none) "_law_pool" "_law_pool" s_law_pool
  g_law_pool : mg "_law_pool" = some (.ref (He.ga K "_law_pool"))
  F_law : FnD' K ("law", none) "law" "law" s_law
  g_law : mg "law" = some (.ref (He.ga K "law"))
  c_Form : Cls K (He.ga K "Form")
  gc_Form : mg "Form" = some (.ref (He.ga K "Form"))
  na_Form_pieces : NoAttr K (He.ga K "Form") "pieces"
  me_Form_parts : Meth K (He.ga K "Form") "parts" (He.fAd K ("Form", some "parts"))
  mk_Form : Mk K (He.ga K "Form") (He.fAd K ("Form", some "__init__"))
  er_NoForm : Er P K mg "NoForm" "NoForm.__init__" (defArgs si_NoForm) (defBody si_NoForm) (defScope si_NoForm) ["at"]
  cv_Form_ANY : cvB K (He.ga K "Form") "ANY" "<any>" = true
  cv_Form_DIGITS : cvB K (He.ga K "Form") "DIGITS" "<digits>" = true
  cv_Form_WORD : cvB K (He.ga K "Form") "WORD" "<word>" = true
  gx_GlueError : mg "GlueError" = some (.ref (He.ga K "GlueError"))
  gx_NoChange : mg "NoChange" = some (.ref (He.ga K "NoChange"))
  gx_NoCrew : mg "NoCrew" = some (.ref (He.ga K "NoCrew"))
  gx_NoForm : mg "NoForm" = some (.ref (He.ga K "NoForm"))
  gx_NoGrammar : mg "NoGrammar" = some (.ref (He.ga K "NoGrammar"))
  gx_NoName : mg "NoName" = some (.ref (He.ga K "NoName"))
  gx_NoOutput : mg "NoOutput" = some (.ref (He.ga K "NoOutput"))
  gx_NoRow : mg "NoRow" = some (.ref (He.ga K "NoRow"))
  gx_NoRows : mg "NoRows" = some (.ref (He.ga K "NoRows"))
  gx_NoRule : mg "NoRule" = some (.ref (He.ga K "NoRule"))
  gx_NoText : mg "NoText" = some (.ref (He.ga K "NoText"))
  gx_NotEnough : mg "NotEnough" = some (.ref (He.ga K "NotEnough"))
  gx_NotRight : mg "NotRight" = some (.ref (He.ga K "NotRight"))
  gx_Pattern : mg "Pattern" = some (.ref (He.ga K "Pattern"))
  xm_NoForm_NoForm : PySem.W.exmOne K (.ref (He.ga K "NoForm")) (.ref (He.ga K "NoForm")) = some true
  fip : isFormB K = true
  ie_NoForm : isEB K (He.ga K "NoForm") = true
  ki_NoForm_GlueError : kitB K (He.ga K "NoForm") (.ref (He.ga K "GlueError")) true = true
  ki_NoForm_ValueError : kitB K (He.ga K "NoForm") (.type "ValueError") true = true
  ka_NoForm_NoChange_NoCrew_NoGrammar_NoName_NoOutput_NoRow_NoRows_NoRule_NoText : decide (PySem.W.kitAny K (.ref (He.ga K "NoForm")) [.ref (He.ga K "NoChange"), .ref (He.ga K "NoCrew"), .ref (He.ga K "NoGrammar"), .ref (He.ga K "NoName"), .ref (He.ga K "NoOutput"), .ref (He.ga K "NoRow"), .ref (He.ga K "NoRows"), .ref (He.ga K "NoRule"), .ref (He.ga K "NoText")] = some false) = true
  ka_NoForm_NotEnough_NotRight : decide (PySem.W.kitAny K (.ref (He.ga K "NoForm")) [.ref (He.ga K "NotEnough"), .ref (He.ga K "NotRight")] = some false) = true
  k_ANY_CELL : ∃ t, mg "ANY_CELL" = some (.str "<any>" t)
  g_FREE_CELLS : mg "FREE_CELLS" = some (.ref (He.ga K "FREE_CELLS"))
  q_FREE_CELLS : ∀ F : Hp, (qT qS).r K F (.ref (He.ga K "FREE_CELLS")) (["<digits>", "<word>", "<any>"] : List Str)
  k_MOST_PARTS : ∃ t, mg "MOST_PARTS" = some (.int 4 t)
  k_MOST_SIGNS : ∃ t, mg "MOST_SIGNS" = some (.int 4 t)
  k_SIGNS : ∃ t, mg "SIGNS" = some (.str " #-.0123456789:>ABCDEFGHIJKLMNOPQRSTUVWXYZabcdefghijklmnopqrstuvwxyz" t)
  n_ValueError : mg "ValueError" = none
  n_bool : mg "bool" = none
  n_int : mg "int" = none
  n_isinstance : mg "isinstance" = none
  n_len : mg "len" = none
  n_max : mg "max" = none
  n_min : mg "min" = none
  n_range : mg "range" = none
  n_str : mg "str" = none
  n_tuple : mg "tuple" = none
section
variable {P : Program} {w : World} {K : PySem.W.Frag} {mg : Str → Option Value} {base : Heap}
theorem fld_Form_pieces {P0' : Addr → Prop} {F0 H0 F H : Hp} {v : V} {a : (List Str)} {Q : VK} (T : Tx P K mg) (S : Sx P0' F0 H0 F H) (r : qForm.r K F v a) (k : ∀ u, (qT qS).r K F u a → Q u H) : fdK K "pieces" Q v H := by
  obtain ⟨p, dx, u0, rfl, h2, k0⟩ := r
  exact fd_at (S.sub _ _ h2) T.c_Form T.na_Form_pieces (by rfl) (k _ k0)
theorem mt_Form_parts {P0' : Addr → Prop} {F0 H0 F H : Hp} {v : V} {a : (List Str)} {G : V → Hp → Prop} (S : Sx P0' F0 H0 F H) (r : qForm.r K F v a) (k : G v H) : mtK (He.ga K "Form") "parts" G v H := by
  obtain ⟨p, dx, u0, rfl, h2, k0⟩ := r
  exact mt_at (S.sub _ _ h2) (by rfl) k
def sp_law_all_signs (K : PySem.W.Frag) : Sp := fun vs H Q _ => ∃ (F : Hp)  (r : Str), vs = [] ∧ Same F H ∧ m_law_all_signs = some r ∧ ∀ v F' H', Sx P0 F H F' H' → qS.r K F' v r → Q v H'
theorem sc_law_all_signs : FnScope [] [] (defScope s_law_all_signs) := ⟨rfl, rfl, rfl, by decide +kernel, rfl, by decide +kernel, by decide +kernel⟩
theorem bn_law_all_signs (T : Tx P K mg) : Binds K (fdOf K ("_law_all_signs", none)) [] [] := FunD.bindsN T.F_law_all_signs fun _ _ _ _ _ _ us hl => match us, hl with | [], _ => rfl
theorem ok_law_all_signs (T : Tx P K mg) : FnOk P w K mg base CX0 1 (He.ga K "_law_all_signs") (fdOf K ("_law_all_signs", none)) [] (sp_law_all_signs K) := by
  refine FunD.ok T.F_law_all_signs sc_law_all_signs (fun vs H0 Q E h => ?_) (fun cdv A outer s H0 vs Q E hr h => ?_)
  · obtain ⟨_, _, rfl, _⟩ := h
    rfl
  · obtain ⟨F0, r, rfl, hE, hm, hQ⟩ := h
    refine ⟨_, PSs.nox ((pss_one (ps_ret pe_str))), ?_⟩
    have S : Sx P0 F0 H0 F0 H0 := Sx.refl0 hE
    unfold m_law_all_signs at hm
    cases hm
    refine rd_ret ?_
    refine rd_c ?_
    exact hQ _ _ _ S rfl
def sp_law_is_fixed (K : PySem.W.Frag) : Sp := fun vs H Q _ => ∃ (F : Hp) (v__law_part : V) (a__law_part : Th) (r : Bool), vs = [v__law_part] ∧ Same F H ∧ qTh.r K F v__law_part a__law_part ∧ m_law_is_fixed a__law_part = some r ∧ ∀ v F' H', Sx P0 F H F' H' → qB.r K F' v r → Q v H'
theorem sc_law_is_fixed : FnScope ["_law_part", "_law_sign"] ["_law_part"] (defScope s_law_is_fixed) := ⟨rfl, rfl, rfl, by decide +kernel, rfl, by decide +kernel, by decide +kernel⟩
theorem bn_law_is_fixed (T : Tx P K mg) : Binds K (fdOf K ("_law_is_fixed", none)) ["_law_part"] [] := FunD.bindsN T.F_law_is_fixed fun _ _ _ _ _ _ us hl => match us, hl with | [_], _ => rfl
theorem ok_law_is_fixed (T : Tx P K mg) : FnOk P w K mg base CX0 2 (He.ga K "_law_is_fixed") (fdOf K ("_law_is_fixed", none)) ["_law_part"] (sp_law_is_fixed K) := by
  refine FunD.ok T.F_law_is_fixed sc_law_is_fixed (fun vs H0 Q E h => ?_) (fun cdv A outer s H0 vs Q E hr h => ?_)
  · obtain ⟨_, _, _, _, rfl, _⟩ := h
    rfl
  · obtain ⟨F0, v__law_part, a__law_part, r, rfl, hE, f__law_part, hm, hQ⟩ := h
    refine ⟨_, PSs.nox ((pss_cons (ps_if (PW.pt (pw_or (pt_not (pt_val (pe_callB (r := rIsi K) call_isi (by rfl) T.n_isinstance (by decide +kernel) (pa_cons (pv 0) (pa_cons (pe_bltn (v := V.ty "str") (by rfl) T.n_str (by decide +kernel) rfl) pa_nil))))) (pw_or1 (pt_cmpR (r := rIn K false) op_in_seq (pv 0) (pe_tup (pa_cons pe_str (pa_cons pe_str (pa_cons pe_str pa_nil)))) rfl)))) (pss_one (ps_ret pe_bl)) pss_nil) (pss_one (ps_ret (pe_and (pe_chain op_le op_le pe_int (pe_callB cr_lenS (by rfl) T.n_len (by decide +kernel) (pa_cons (pv 0) pa_nil)) pe_int) (pe_one (pe_cmpR (r := rEqD K) (op_eqD hr.units) (pe_lc (own := [("_law_sign", 1)]) rfl sc_law_is_fixed.nd (pi_str (pv 0)) (blkOk_by (N := ["_law_part", "_law_sign"]) (sc := defScope s_law_is_fixed) (by decide +kernel)) (fun _ _ _ _ _ => pg_name (i := 1) sc_law_is_fixed.nd rfl (Or.inl rfl)) (fun _ _ _ _ _ => (pts_one (pt_cmpR op_niS (pv 1) (pe_call0 (ok_law_all_signs T) (hr.mono (by decide)) (by rfl) T.g_law_all_signs T.F_law_all_signs.kp (bn_law_all_signs T) .nil pass0) rfl))) (fun _ _ _ _ _ => (pv 1))) (pe_lst pa_nil) (nomark _)))))))), ?_⟩
    have S : Sx P0 F0 H0 F0 H0 := Sx.refl0 hE
    unfold m_law_is_fixed at hm
    obtain ⟨t10, e11, hm⟩ := bd_some hm
    refine rd_seq ?_
    refine rd_ifS ?_
    refine rd_or ?_
    refine rd_not ?_
    refine rd_tB ?_
    refine rd_cb ?_
    refine rd_cons ?_
    refine rd_v rfl ?_
    refine rd_cons ?_
    refine rd_c ?_
    refine rd_nil ?_
    refine rd_isiTh (n := "str") (tx_th S f__law_part) (by decide +kernel) ?_
    refine rd_b ?_
    refine or_j (fun c H' => c = t10 ∧ ∃ F', Sx P0 F0 H0 F' H') ?_ ?_ ?_
    · intro b12 Q13 q14
      have e11 := if_f e11 b12
      have S15 := Sx.refl0 S.sub
      refine rd_test ?_
      refine rd_op ?_
      refine rd_v rfl ?_
      refine rd_tup ?_
      refine rd_cons ?_
      refine rd_c ?_
      refine rd_cons ?_
      refine rd_c ?_
      refine rd_cons ?_
      refine rd_c ?_
      refine rd_nil ?_
      refine rd_uK rfl ?_
      refine alT (K := K) (A := qS) (xs := [("<digits>" : Str), ("<word>" : Str), ("<any>" : Str)]) S15 (.cons rfl (.cons rfl (.cons rfl .nil))) (fun v16 F17 H18 c19 f20 => ?_)
      have S21 := S15.call0 c19
      have f__law_part := qTh.mono c19.le f__law_part
      obtain ⟨t22, e23, e11⟩ := bd_some e11
      have e24 := thS_fact f__law_part e23
      cases e24
      cases e11
      refine rd_inS (S21.t f20).q ?_
      refine rd_b ?_
      exact q14 _ _ ⟨rfl, F17, S21⟩
    · intro b12
      have e11 := if_t e11 b12
      cases e11
      have S25 := Sx.refl0 S.sub
      exact ⟨rfl, F0, S25⟩
    rintro b29 H27 ⟨rfl, F26, c28⟩
    have S30 := S.call0 c28
    have f__law_part := qTh.mono c28.le f__law_part
    refine if_b hm (fun b31 hm => ?_) (fun b31 hm => ?_)
    · skip
      cases hm
      refine rd_ret ?_
      refine rd_c ?_
      exact hQ _ _ _ S30 rfl
    · skip
      obtain ⟨t32, e33, hm⟩ := bd_some hm
      have e34 := thS_fact f__law_part e33
      cases e34
      obtain ⟨g35, hm⟩ := gd_some hm
      obtain ⟨t94, e95, hm⟩ := bd_some hm
      refine rd_next ?_
      refine rd_ret ?_
      refine rd_andV ?_
      refine rd_chain ?_
      refine rd_c ?_
      refine rd_cb ?_
      refine rd_cons ?_
      refine rd_v rfl ?_
      refine rd_nil ?_
      refine rd_lenS g35 ?_
      refine rd_I0 ?_
      refine ch_at (c := decide (((t32).length : Int) ≤ 4)) (by intro Q9 k9; refine rd_c ?_; exact k9) (fun _ k9 => rd_I0 k9) ?_
      refine rd_b ?_
      refine andV_j (fun c H' => c = V.bl t94 ∧ ∃ F', Sx P0 F26 H27 F' H') ?_ ?_ ?_
      · intro b96 Q97 q98
        have e95 := if_t e95 b96
        have S99 := Sx.refl0 S30.sub
        refine rd_op ?_
        refine rd_lc ?_
        refine rd_iS ?_
        refine rd_v rfl ?_
        refine rd_wS ?_
        obtain ⟨g100, e95⟩ := gd_some e95
        obtain ⟨t101, e102, e95⟩ := bd_some e95
        refine rd_comp (B := qS) feedsS (typedS (K := K) (F := F26)) e102 g100 (Pc := P0) (fun _ z => z.elim) S99.sub (fun (s103 : Unit) F H => True) ?_ ?_ ?_ ?_ ?_ ?_
        · intro _ _ _ _ _; trivial
        · trivial
        · intros; trivial
        · intros; trivial
        · skip
          intro x105 v106 s107 o108 F109 H110 d111 acc112 f113 S114 w115 w116 n117 hm118 E119 N120 hN121 hE122
          have S123 := Sx.refl0 S114.sub
          unfold m_law_is_fixed_b3 at hm118
          cases (show v106 = (V.str (x105)) from f113)
          obtain ⟨t124, e125, hm118⟩ := bd_some hm118
          refine rd_gn ?_
          refine rd_wp rfl ?_
          refine rd_test ?_
          refine rd_op ?_
          refine rd_v rfl ?_
          refine rd_call ?_
          refine rd_nil ?_
          refine ⟨F109, t124, rfl, S123.sub, e125, fun v129 F126 H127 c128 f130 => ?_⟩
          have S131 := S123.call0 c128
          cases (show v129 = (V.str (t124)) from f130)
          refine rd_niSS ?_
          refine rd_b ?_
          refine if_b hm118 (fun b132 hm118 => ?_) (fun b132 hm118 => ?_)
          · skip
            cases hm118
            refine rd_v rfl ?_
            exact hN121 _ _ _ _ rfl S131 rfl trivial
          · skip
            cases hm118
            exact hE122 _ _ rfl S131 trivial
        intro p133 us134 F135 H136 n137 c138 w139 w140 r141
        have z142 := S99.free0 n137
        have S143 := S99.call0 c138
        have w144 : Ow P0 H27 _ _ _ _ := ⟨w140.fr, w140.at_, .inl z142⟩
        obtain ⟨F145, S146, le147, f148, _, eq149⟩ := fz S143 w144 z142 r141
        refine rd_lst ?_
        refine rd_nil ?_
        refine rd_lK rfl ?_
        refine alL (K := K) (A := qS) (xs := ([] : List Str)) S146 .nil (fun v150 F151 H152 c153 f154 => ?_)
        have S155 := S146.call0 c153
        have f148 := (qL qS).mono c153.le f148
        obtain ⟨g156, e95⟩ := gd_some e95
        obtain ⟨g157, e95⟩ := gd_some e95
        cases e95
        refine rd_eqD (D := (dL dS)) (S155.d (dL dS) f148) (S155.d (dL dS) f154) g156 g157 ?_
        exact q98 _ _ ⟨rfl, F151, S155⟩
      · intro b96
        have e95 := if_f e95 b96
        cases e95
        have S158 := Sx.refl0 S30.sub
        exact ⟨rfl, F26, S158⟩
      rintro b162 H160 ⟨rfl, F159, c161⟩
      have S163 := S30.call0 c161
      cases hm
      exact hQ _ _ _ S163 rfl
def sp_law_first_bad (K : PySem.W.Frag) : Sp := fun vs H Q _ => ∃ (F : Hp) (v__law_parts : V) (a__law_parts : (List Th)) (r : Int), vs = [v__law_parts] ∧ Same F H ∧ (qL qTh).r K F v__law_parts a__law_parts ∧ m_law_first_bad a__law_parts = some r ∧ ∀ v F' H', Sx P0 F H F' H' → qI.r K F' v r → Q v H'
theorem sc_law_first_bad : FnScope ["_law_parts", "_law_k", "_law_part", "_law_free"] ["_law_parts"] (defScope s_law_first_bad) := ⟨rfl, rfl, rfl, by decide +kernel, rfl, by decide +kernel, by decide +kernel⟩
theorem bn_law_first_bad (T : Tx P K mg) : Binds K (fdOf K ("_law_first_bad", none)) ["_law_parts"] [] := FunD.bindsN T.F_law_first_bad fun _ _ _ _ _ _ us hl => match us, hl with | [_], _ => rfl
theorem ok_law_first_bad (T : Tx P K mg) : FnOk P w K mg base CX0 3 (He.ga K "_law_first_bad") (fdOf K ("_law_first_bad", none)) ["_law_parts"] (sp_law_first_bad K) := by
  refine FunD.ok T.F_law_first_bad sc_law_first_bad (fun vs H0 Q E h => ?_) (fun cdv A outer s H0 vs Q E hr h => ?_)
  · obtain ⟨_, _, _, _, rfl, _⟩ := h
    rfl
  · obtain ⟨F0, v__law_parts, a__law_parts, r, rfl, hE, f__law_parts, hm, hQ⟩ := h
    refine ⟨_, PSs.nox ((pss_cons (ps_for PassesOwn.never rfl (pi_range1 (by rfl) T.n_range (pa_cons (pe_callB (r := rLenQ K) cr_lenQ (by rfl) T.n_len (by decide +kernel) (pa_cons (pv 0) pa_nil)) pa_nil)) (pg_name (i := 1) sc_law_first_bad.nd rfl (dk rfl)) (pss_cons (ps_set (i := 2) sc_law_first_bad.nd rfl (dk rfl) (pe_ix (r := rIxL K) ix_list (pv 0) (pv 1) (fun _ _ => rfl))) (pss_cons (ps_set (i := 3) sc_law_first_bad.nd rfl (dk rfl) (pe_and (pe_callB (r := rIsi K) call_isi (by rfl) T.n_isinstance (by decide +kernel) (pa_cons (pv 2) (pa_cons (pe_bltn (v := V.ty "str") (by rfl) T.n_str (by decide +kernel) rfl) pa_nil))) (pe_one (pe_cmpR (r := rIn K false) op_in_seq (pv 2) (pe_tup (pa_cons pe_str (pa_cons pe_str (pa_cons pe_str pa_nil)))) rfl)))) (pss_cons (ps_if (PW.pt (pw_or (pt_cmpR op_gt (pv 1) pe_int (nomark _)) (pw_or1 (PW.pt (pw_and (pt_not (pt_val (pv 3))) (pw_and1 (pt_not (pt_val (pe_call (ok_law_is_fixed T) (hr.mono (by decide)) (by rfl) T.g_law_is_fixed T.F_law_is_fixed.kp (bn_law_is_fixed T) .nil pass0 (pa_cons (pv 2) pa_nil)))))))))) (pss_one (ps_ret (pv 1))) pss_nil) (pss_one (ps_if (PW.pt (pw_or (PW.pt (pw_and (pt_not (pt_val (pv 3))) (pw_and (pt_cmpR op_gt (pv 1) pe_int (nomark _)) (pw_and1 (pt_val (pe_call (ok_law_is_fixed T) (hr.mono (by decide)) (by rfl) T.g_law_is_fixed T.F_law_is_fixed.kp (bn_law_is_fixed T) .nil pass0 (pa_cons (pe_ix (r := rIxL K) ix_list (pv 0) (pe_op op_sub (pv 1) pe_int) (fun _ _ => rfl)) pa_nil))))))) (pw_or1 (PW.pt (pw_and (pt_cmpR op_eqS (pv 2) pe_str (nomark _)) (pw_and1 (pt_cmpR (r := rIn K false) op_in_seq pe_str (pe_slice (r := rSlL K) sl_list (pv 0) po_none (po_some (pv 1))) rfl))))))) (pss_one (ps_ret (pv 1))) pss_nil)))))) (pss_one (ps_ret (pe_un un_neg pe_int))))), ?_⟩
    have S : Sx P0 F0 H0 F0 H0 := Sx.refl0 hE
    unfold m_law_first_bad at hm
    obtain ⟨g1, hm⟩ := gd_some hm
    refine rd_seq ?_
    refine rd_for ?_
    refine rd_iR1 ?_
    refine rd_cons ?_
    refine rd_cb ?_
    refine rd_cons ?_
    refine rd_v rfl ?_
    refine rd_nil ?_
    refine rd_lenQ (S.l f__law_parts).r.q ?_
    refine rd_nil ?_
    refine rd_r1 g1 ?_
    obtain ⟨t2, e3, hm⟩ := bd_some hm
    refine rd_forC feedsRg (typedR (K := K) (F := F0)) e3 (fun (s4 : Unit) σ H => ∃ (F : Hp) (o1 : Option V) (o2 : Option V) (o3 : Option V), σ = [some v__law_parts, o1, o2, o3] ∧ Sx P0 F0 H0 F H) ?_ ?_ ?_ ?_
    · intro _ _ _ _; trivial
    · skip
      have S6 := Sx.refl0 S.sub
      exact ⟨F0, _, _, _, rfl, S6⟩
    · skip
      rintro x7 v8 s9 c13 σ10 H11 f12 ⟨F14, o16, o17, o18, rfl, S15⟩ hm21 hbk19 hrt20
      have f__law_parts := (qL qTh).mono S15.le f__law_parts
      unfold m_law_first_bad_b1 at hm21
      cases (show v8 = (V.int (x7)) from f12)
      obtain ⟨t22, e23, hm21⟩ := bd_some hm21
      refine rd_gn ?_
      refine rd_seq ?_
      refine rd_asg ?_
      refine rd_op ?_
      refine rd_v rfl ?_
      refine rd_v rfl ?_
      refine rd_ixL (S15.l f__law_parts).r e23 (fun u24 f25 => ?_)
      obtain ⟨t35, e36, hm21⟩ := bd_some hm21
      refine rd_gn ?_
      refine rd_seq ?_
      refine rd_asg ?_
      refine rd_andV ?_
      refine rd_cb ?_
      refine rd_cons ?_
      refine rd_v rfl ?_
      refine rd_cons ?_
      refine rd_c ?_
      refine rd_nil ?_
      refine rd_isiTh (n := "str") (tx_th S15 f25) (by decide +kernel) ?_
      refine rd_b ?_
      refine andV_j (fun c H' => c = V.bl t35 ∧ ∃ F', Sx P0 F14 H11 F' H') ?_ ?_ ?_
      · intro b37 Q38 q39
        have e36 := if_t e36 b37
        have S40 := Sx.refl0 S15.sub
        refine rd_op ?_
        refine rd_v rfl ?_
        refine rd_tup ?_
        refine rd_cons ?_
        refine rd_c ?_
        refine rd_cons ?_
        refine rd_c ?_
        refine rd_cons ?_
        refine rd_c ?_
        refine rd_nil ?_
        refine rd_uK rfl ?_
        refine alT (K := K) (A := qS) (xs := [("<digits>" : Str), ("<word>" : Str), ("<any>" : Str)]) S40 (.cons rfl (.cons rfl (.cons rfl .nil))) (fun v41 F42 H43 c44 f45 => ?_)
        have S46 := S40.call0 c44
        have f__law_parts := (qL qTh).mono c44.le f__law_parts
        have f25 := qTh.mono c44.le f25
        obtain ⟨t47, e48, e36⟩ := bd_some e36
        have e49 := thS_fact f25 e48
        cases e49
        cases e36
        refine rd_inS (S46.t f45).q ?_
        exact q39 _ _ ⟨rfl, F42, S46⟩
      · intro b37
        have e36 := if_f e36 b37
        cases e36
        have S50 := Sx.refl0 S15.sub
        exact ⟨rfl, F14, S50⟩
      rintro b54 H52 ⟨rfl, F51, c53⟩
      have S55 := S15.call0 c53
      have f__law_parts := (qL qTh).mono c53.le f__law_parts
      have f25 := qTh.mono c53.le f25
      obtain ⟨t84, e85, hm21⟩ := bd_some hm21
      refine rd_gn ?_
      refine rd_seq ?_
      refine rd_ifS ?_
      refine rd_or ?_
      refine rd_test ?_
      refine rd_op ?_
      refine rd_v rfl ?_
      refine rd_c ?_
      refine rd_I0 ?_
      refine rd_b ?_
      refine or_j (fun c H' => c = t84 ∧ ∃ F', Sx P0 F51 H52 F' H') ?_ ?_ ?_
      · intro b86 Q87 q88
        have e85 := if_f e85 b86
        have S89 := Sx.refl0 S55.sub
        obtain ⟨t98, e99, e85⟩ := bd_some e85
        refine rd_and ?_
        refine rd_not ?_
        refine rd_tB ?_
        refine rd_v rfl ?_
        refine rd_b ?_
        refine and_j (fun c H' => c = t98 ∧ ∃ F', Sx P0 F51 H52 F' H') ?_ ?_ ?_
        · intro b100 Q101 q102
          have e99 := if_t e99 b100
          have S103 := Sx.refl0 S89.sub
          obtain ⟨t104, e105, e99⟩ := bd_some e99
          refine rd_not ?_
          refine rd_tB ?_
          refine rd_call ?_
          refine rd_cons ?_
          refine rd_v rfl ?_
          refine rd_nil ?_
          refine ⟨F51, _, _, t104, rfl, S103.sub, f25, e105, fun v109 F106 H107 c108 f110 => ?_⟩
          have S111 := S103.call0 c108
          have f__law_parts := (qL qTh).mono c108.le f__law_parts
          have f25 := qTh.mono c108.le f25
          cases (show v109 = (V.bl (t104)) from f110)
          cases e99
          refine rd_b ?_
          exact q102 _ _ ⟨rfl, F106, S111⟩
        · intro b100
          have e99 := if_f e99 b100
          cases e99
          have S112 := Sx.refl0 S89.sub
          exact ⟨rfl, F51, S112⟩
        rintro b116 H114 ⟨rfl, F113, c115⟩
        have S117 := S89.call0 c115
        have f__law_parts := (qL qTh).mono c115.le f__law_parts
        have f25 := qTh.mono c115.le f25
        cases e85
        exact q88 _ _ ⟨rfl, F113, S117⟩
      · intro b86
        have e85 := if_t e85 b86
        cases e85
        have S118 := Sx.refl0 S55.sub
        exact ⟨rfl, F51, S118⟩
      rintro b122 H120 ⟨rfl, F119, c121⟩
      have S123 := S55.call0 c121
      have f__law_parts := (qL qTh).mono c121.le f__law_parts
      have f25 := qTh.mono c121.le f25
      refine if_b hm21 (fun b124 hm21 => ?_) (fun b124 hm21 => ?_)
      · skip
        cases hm21
        have e125 := hrt20 _ rfl
        subst e125
        have hm := aft_rt hm
        have S126 := S.call0 S123
        cases hm
        refine rd_ret ?_
        refine rd_v rfl ?_
        exact hQ _ _ _ S126 rfl
      · skip
        obtain ⟨t163, e164, hm21⟩ := bd_some hm21
        refine rd_next ?_
        refine rd_ifS ?_
        refine rd_or ?_
        refine rd_and ?_
        refine rd_not ?_
        refine rd_tB ?_
        refine rd_v rfl ?_
        refine rd_b ?_
        refine and_j (fun c H' => c = t163 ∧ ∃ F', Sx P0 F119 H120 F' H') ?_ ?_ ?_
        · intro b165 Q166 q167
          have e164 := if_t e164 b165
          have S168 := Sx.refl0 S123.sub
          obtain ⟨t181, e182, e164⟩ := bd_some e164
          refine rd_and ?_
          refine rd_test ?_
          refine rd_op ?_
          refine rd_v rfl ?_
          refine rd_c ?_
          refine rd_I0 ?_
          refine rd_b ?_
          refine and_j (fun c H' => c = t181 ∧ ∃ F', Sx P0 F119 H120 F' H') ?_ ?_ ?_
          · intro b183 Q184 q185
            have e182 := if_t e182 b183
            have S186 := Sx.refl0 S168.sub
            obtain ⟨t187, e188, e182⟩ := bd_some e182
            refine rd_tB ?_
            refine rd_call ?_
            refine rd_cons ?_
            refine rd_op ?_
            refine rd_v rfl ?_
            refine rd_op ?_
            refine rd_v rfl ?_
            refine rd_c ?_
            refine rd_I0 ?_
            refine rd_ixL (S186.l f__law_parts).r e188 (fun u189 f190 => ?_)
            obtain ⟨t191, e192, e182⟩ := bd_some e182
            refine rd_nil ?_
            refine ⟨F119, _, _, t191, rfl, S186.sub, f190, e192, fun v196 F193 H194 c195 f197 => ?_⟩
            have S198 := S186.call0 c195
            have f__law_parts := (qL qTh).mono c195.le f__law_parts
            have f25 := qTh.mono c195.le f25
            cases (show v196 = (V.bl (t191)) from f197)
            cases e182
            refine rd_b ?_
            exact q185 _ _ ⟨rfl, F193, S198⟩
          · intro b183
            have e182 := if_f e182 b183
            cases e182
            have S199 := Sx.refl0 S168.sub
            exact ⟨rfl, F119, S199⟩
          rintro b203 H201 ⟨rfl, F200, c202⟩
          have S204 := S168.call0 c202
          have f__law_parts := (qL qTh).mono c202.le f__law_parts
          have f25 := qTh.mono c202.le f25
          cases e164
          exact q167 _ _ ⟨rfl, F200, S204⟩
        · intro b165
          have e164 := if_f e164 b165
          cases e164
          have S205 := Sx.refl0 S123.sub
          exact ⟨rfl, F119, S205⟩
        rintro b209 H207 ⟨rfl, F206, c208⟩
        have S210 := S123.call0 c208
        have f__law_parts := (qL qTh).mono c208.le f__law_parts
        have f25 := qTh.mono c208.le f25
        obtain ⟨t244, e245, hm21⟩ := bd_some hm21
        refine or_j (fun c H' => c = t244 ∧ ∃ F', Sx P0 F206 H207 F' H') ?_ ?_ ?_
        · intro b246 Q247 q248
          have e245 := if_f e245 b246
          have S249 := Sx.refl0 S210.sub
          obtain ⟨t250, e251, e245⟩ := bd_some e245
          have e252 := thS_fact f25 e251
          cases e252
          obtain ⟨t262, e263, e245⟩ := bd_some e245
          refine rd_and ?_
          refine rd_test ?_
          refine rd_op ?_
          refine rd_v rfl ?_
          refine rd_c ?_
          refine rd_S0 ?_
          refine rd_b ?_
          refine and_j (fun c H' => c = t262 ∧ ∃ F', Sx P0 F206 H207 F' H') ?_ ?_ ?_
          · intro b264 Q265 q266
            have e263 := if_t e263 b264
            have S267 := Sx.refl0 S249.sub
            refine rd_test ?_
            refine rd_op ?_
            refine rd_c ?_
            refine rd_sl ?_
            refine rd_v rfl ?_
            refine rd_np ?_
            refine rd_pt ?_
            refine rd_v rfl ?_
            refine rd_i ?_
            refine rd_slL (S267.l f__law_parts).r ?_
            refine alL' S267 (fun v268 F269 H270 c271 f272 => ?_)
            have S273 := S267.call0 c271
            have f__law_parts := (qL qTh).mono c271.le f__law_parts
            obtain ⟨t274, e275, e263⟩ := bd_some e263
            have f276 : (qL qS).r K F269 v268 t274 := qL_thAll f272 e275
            cases e263
            refine rd_inS (S273.l f276).r.q ?_
            refine rd_b ?_
            exact q266 _ _ ⟨rfl, F269, S273⟩
          · intro b264
            have e263 := if_f e263 b264
            cases e263
            have S277 := Sx.refl0 S249.sub
            exact ⟨rfl, F206, S277⟩
          rintro b281 H279 ⟨rfl, F278, c280⟩
          have S282 := S249.call0 c280
          have f__law_parts := (qL qTh).mono c280.le f__law_parts
          cases e245
          exact q248 _ _ ⟨rfl, F278, S282⟩
        · intro b246
          have e245 := if_t e245 b246
          cases e245
          have S283 := Sx.refl0 S210.sub
          exact ⟨rfl, F206, S283⟩
        rintro b287 H285 ⟨rfl, F284, c286⟩
        have S288 := S210.call0 c286
        have f__law_parts := (qL qTh).mono c286.le f__law_parts
        have f25 := qTh.mono c286.le f25
        refine if_b hm21 (fun b289 hm21 => ?_) (fun b289 hm21 => ?_)
        · skip
          cases hm21
          have e290 := hrt20 _ rfl
          subst e290
          have hm := aft_rt hm
          have S291 := S.call0 S288
          cases hm
          refine rd_ret ?_
          refine rd_v rfl ?_
          exact hQ _ _ _ S291 rfl
        · skip
          cases hm21
          refine rd_next ?_
          exact ⟨_, rfl, ⟨F284, _, _, _, rfl, S288⟩⟩
    · skip
      rintro s294 σ292 H293 e295 ⟨F296, o298, o299, o300, rfl, S297⟩
      subst e295
      have hm := aft_nx hm
      have S301 := S.call0 S297
      have f__law_parts := (qL qTh).mono S297.le f__law_parts
      cases hm
      refine rd_ret ?_
      refine rd_un ?_
      refine rd_c ?_
      refine rd_U ?_
      exact hQ _ _ _ S301 rfl
def sp_Form_parts (K : PySem.W.Frag) : Sp := fun vs H Q _ => ∃ (F : Hp) (v_self : V) (a_self : (List Str)) (r : (List Str)), vs = [v_self] ∧ Same F H ∧ qForm.r K F v_self a_self ∧ m_Form_parts a_self = some r ∧ ∀ v F' H', Sx P0 F H F' H' → (qT qS).r K F' v r → Q v H'
theorem sc_Form_parts : FnScope ["self"] ["self"] (defScope s_Form_parts) := ⟨rfl, rfl, rfl, by decide +kernel, rfl, by decide +kernel, by decide +kernel⟩
theorem bn_Form_parts (T : Tx P K mg) : Binds K (fdOf K ("Form", some "parts")) ["self"] [] := FunD.bindsN T.F_Form_parts fun _ _ _ _ _ _ us hl => match us, hl with | [_], _ => rfl
theorem ok_Form_parts (T : Tx P K mg) : FnOk P w K mg base CX0 1 (He.fAd K ("Form", some "parts")) (fdOf K ("Form", some "parts")) ["self"] (sp_Form_parts K) := by
  refine FunD.ok T.F_Form_parts sc_Form_parts (fun vs H0 Q E h => ?_) (fun cdv A outer s H0 vs Q E hr h => ?_)
  · obtain ⟨_, _, _, _, rfl, _⟩ := h
    rfl
  · obtain ⟨F0, v_self, a_self, r, rfl, hE, f_self, hm, hQ⟩ := h
    refine ⟨_, PSs.nox ((pss_one (ps_ret (pe_fldK (pv 0) rfl)))), ?_⟩
    have S : Sx P0 F0 H0 F0 H0 := Sx.refl0 hE
    unfold m_Form_parts at hm
    refine rd_ret ?_
    refine rd_fld ?_
    refine rd_v rfl ?_
    refine fld_Form_pieces T S f_self (fun u1 f2 => ?_)
    cases hm
    exact hQ _ _ _ S f2
def sp_is_line (K : PySem.W.Frag) : Sp := fun vs H Q _ => ∃ (F : Hp) (v_thing : V) (a_thing : Th) (r : Bool), vs = [v_thing] ∧ Same F H ∧ qTh.r K F v_thing a_thing ∧ m_is_line a_thing = some r ∧ ∀ v F' H', Sx P0 F H F' H' → qB.r K F' v r → Q v H'
theorem sc_is_line : FnScope ["thing", "sign"] ["thing"] (defScope s_is_line) := ⟨rfl, rfl, rfl, by decide +kernel, rfl, by decide +kernel, by decide +kernel⟩
theorem bn_is_line (T : Tx P K mg) : Binds K (fdOf K ("is_line", none)) ["thing"] [] := FunD.bindsN T.F_is_line fun _ _ _ _ _ _ us hl => match us, hl with | [_], _ => rfl
theorem ok_is_line (T : Tx P K mg) : FnOk P w K mg base CX0 1 (He.ga K "is_line") (fdOf K ("is_line", none)) ["thing"] (sp_is_line K) := by
  refine FunD.ok T.F_is_line sc_is_line (fun vs H0 Q E h => ?_) (fun cdv A outer s H0 vs Q E hr h => ?_)
  · obtain ⟨_, _, _, _, rfl, _⟩ := h
    rfl
  · obtain ⟨F0, v_thing, a_thing, r, rfl, hE, f_thing, hm, hQ⟩ := h
    refine ⟨_, PSs.nox ((pss_cons (ps_if (PW.pt (pw_or (pt_not (pt_val (pe_callB (r := rIsi K) call_isi (by rfl) T.n_isinstance (by decide +kernel) (pa_cons (pv 0) (pa_cons (pe_bltn (v := V.ty "str") (by rfl) T.n_str (by decide +kernel) rfl) pa_nil))))) (pw_or1 (pt_cmpR op_eqS (pv 0) pe_str (nomark _))))) (pss_one (ps_ret pe_bl)) pss_nil) (pss_cons (ps_for PassesOwn.never rfl (pi_str (pv 0)) (pg_name (i := 1) sc_is_line.nd rfl (dk rfl)) (pss_one (ps_if (pt_cmpR op_niS (pv 1) (pe_glob (v := V.str " #-.0123456789:>ABCDEFGHIJKLMNOPQRSTUVWXYZabcdefghijklmnopqrstuvwxyz") (by rfl) (T.k_SIGNS.choose_spec) ⟨_, rfl⟩) rfl) (pss_one (ps_ret pe_bl)) pss_nil))) (pss_one (ps_ret pe_bl))))), ?_⟩
    have S : Sx P0 F0 H0 F0 H0 := Sx.refl0 hE
    unfold m_is_line at hm
    obtain ⟨t4, e5, hm⟩ := bd_some hm
    refine rd_seq ?_
    refine rd_ifS ?_
    refine rd_or ?_
    refine rd_not ?_
    refine rd_tB ?_
    refine rd_cb ?_
    refine rd_cons ?_
    refine rd_v rfl ?_
    refine rd_cons ?_
    refine rd_c ?_
    refine rd_nil ?_
    refine rd_isiTh (n := "str") (tx_th S f_thing) (by decide +kernel) ?_
    refine rd_b ?_
    refine or_j (fun c H' => c = t4 ∧ ∃ F', Sx P0 F0 H0 F' H') ?_ ?_ ?_
    · intro b6 Q7 q8
      have e5 := if_f e5 b6
      have S9 := Sx.refl0 S.sub
      obtain ⟨t10, e11, e5⟩ := bd_some e5
      have e12 := thS_fact f_thing e11
      cases e12
      cases e5
      refine rd_test ?_
      refine rd_op ?_
      refine rd_v rfl ?_
      refine rd_c ?_
      refine rd_S0 ?_
      refine rd_b ?_
      exact q8 _ _ ⟨rfl, F0, S9⟩
    · intro b6
      have e5 := if_t e5 b6
      cases e5
      have S13 := Sx.refl0 S.sub
      exact ⟨rfl, F0, S13⟩
    rintro b17 H15 ⟨rfl, F14, c16⟩
    have S18 := S.call0 c16
    have f_thing := qTh.mono c16.le f_thing
    refine if_b hm (fun b19 hm => ?_) (fun b19 hm => ?_)
    · skip
      cases hm
      refine rd_ret ?_
      refine rd_c ?_
      exact hQ _ _ _ S18 rfl
    · skip
      obtain ⟨t20, e21, hm⟩ := bd_some hm
      have e22 := thS_fact f_thing e21
      cases e22
      refine rd_next ?_
      refine rd_seq ?_
      refine rd_for ?_
      refine rd_iS ?_
      refine rd_v rfl ?_
      refine rd_wS ?_
      obtain ⟨t23, e24, hm⟩ := bd_some hm
      refine rd_forC feedsS (typedS (K := K) (F := F14)) e24 (fun (s25 : Unit) σ H => ∃ (F : Hp) (o1 : Option V), σ = [some (V.str (t20)), o1] ∧ Sx P0 F14 H15 F H) ?_ ?_ ?_ ?_
      · intro _ _ _ _; trivial
      · skip
        have S27 := Sx.refl0 S18.sub
        exact ⟨F14, _, rfl, S27⟩
      · skip
        rintro x28 v29 s30 c34 σ31 H32 f33 ⟨F35, o37, rfl, S36⟩ hm40 hbk38 hrt39
        unfold m_is_line_b1 at hm40
        cases (show v29 = (V.str (x28)) from f33)
        refine rd_gn ?_
        refine rd_ifS ?_
        refine rd_test ?_
        refine rd_op ?_
        refine rd_v rfl ?_
        refine rd_c ?_
        refine rd_niSS ?_
        refine rd_b ?_
        refine if_b hm40 (fun b41 hm40 => ?_) (fun b41 hm40 => ?_)
        · skip
          cases hm40
          have e42 := hrt39 _ rfl
          subst e42
          have hm := aft_rt hm
          have S43 := S18.call0 S36
          cases hm
          refine rd_ret ?_
          refine rd_c ?_
          exact hQ _ _ _ S43 rfl
        · skip
          cases hm40
          refine rd_next ?_
          exact ⟨_, rfl, ⟨F35, _, rfl, S36⟩⟩
      · skip
        rintro s46 σ44 H45 e47 ⟨F48, o50, rfl, S49⟩
        subst e47
        have hm := aft_nx hm
        have S51 := S18.call0 S49
        cases hm
        refine rd_ret ?_
        refine rd_c ?_
        exact hQ _ _ _ S51 rfl
def sp_is_allowed (K : PySem.W.Frag) : Sp := fun vs H Q _ => ∃ (F : Hp) (v_parts : V) (a_parts : (List Th)) (a_at : Int) (r : Bool), vs = [v_parts, (V.int (a_at))] ∧ Same F H ∧ (qT qTh).r K F v_parts a_parts ∧ m_is_allowed a_parts a_at = some r ∧ ∀ v F' H', Sx P0 F H F' H' → qB.r K F' v r → Q v H'
theorem sc_is_allowed : FnScope ["parts", "at", "part"] ["parts", "at"] (defScope s_is_allowed) := ⟨rfl, rfl, rfl, by decide +kernel, rfl, by decide +kernel, by decide +kernel⟩
theorem bn_is_allowed (T : Tx P K mg) : Binds K (fdOf K ("is_allowed", none)) ["parts", "at"] [] := FunD.bindsN T.F_is_allowed fun _ _ _ _ _ _ us hl => match us, hl with | [_, _], _ => rfl
theorem ok_is_allowed (T : Tx P K mg) : FnOk P w K mg base CX0 2 (He.ga K "is_allowed") (fdOf K ("is_allowed", none)) ["parts", "at"] (sp_is_allowed K) := by
  refine FunD.ok T.F_is_allowed sc_is_allowed (fun vs H0 Q E h => ?_) (fun cdv A outer s H0 vs Q E hr h => ?_)
  · obtain ⟨_, _, _, _, _, rfl, _⟩ := h
    rfl
  · obtain ⟨F0, v_parts, a_parts, a_at, r, rfl, hE, f_parts, hm, hQ⟩ := h
    refine ⟨_, PSs.nox ((pss_cons (ps_set (i := 2) sc_is_allowed.nd rfl (dk rfl) (pe_ix (r := rIxT K) ix_tup (pv 0) (pv 1) (fun _ _ => rfl))) (pss_cons (ps_if (PW.pt (pw_or (pt_cmpR op_ge (pv 1) (pe_glob (v := V.int 4) (by rfl) (T.k_MOST_PARTS.choose_spec) ⟨_, rfl⟩) (nomark _)) (pw_or1 (pt_not (pt_val (pe_callB (r := rIsi K) call_isi (by rfl) T.n_isinstance (by decide +kernel) (pa_cons (pv 2) (pa_cons (pe_bltn (v := V.ty "str") (by rfl) T.n_str (by decide +kernel) rfl) pa_nil)))))))) (pss_one (ps_ret pe_bl)) pss_nil) (pss_cons (ps_if (pt_cmpR op_eqS (pv 2) (pe_glob (v := V.str "<any>") (by rfl) (T.k_ANY_CELL.choose_spec) ⟨_, rfl⟩) (nomark _)) (pss_one (ps_ret (pe_cmpR (r := rIn K true) op_notIn_seq (pe_glob (v := V.str "<any>") (by rfl) (T.k_ANY_CELL.choose_spec) ⟨_, rfl⟩) (pe_slice (r := rSlA K) sl_tupA (pv 0) po_none (po_some (pv 1))) rfl))) pss_nil) (pss_cons (ps_if (pt_cmpR (r := rIn K false) op_in_seq (pv 2) (pe_glob (v := V.ref (He.ga K "FREE_CELLS")) (by rfl) T.g_FREE_CELLS rfl) rfl) (pss_one (ps_ret pe_bl)) pss_nil) (pss_cons (ps_if (PW.pt (pw_and (pt_cmpR op_gt (pv 1) pe_int (nomark _)) (pw_and1 (pt_cmpR (r := rIn K true) op_notIn_seq (pe_ix (r := rIxT K) ix_tup (pv 0) (pe_op op_sub (pv 1) pe_int) (fun _ _ => rfl)) (pe_glob (v := V.ref (He.ga K "FREE_CELLS")) (by rfl) T.g_FREE_CELLS rfl) rfl)))) (pss_one (ps_ret pe_bl)) pss_nil) (pss_one (ps_ret (pe_and (pe_call (ok_is_line T) (hr.mono (by decide)) (by rfl) T.g_is_line T.F_is_line.kp (bn_is_line T) .nil pass0 (pa_cons (pv 2) pa_nil)) (pe_one (pe_cmpR op_le (pe_callB cr_lenS (by rfl) T.n_len (by decide +kernel) (pa_cons (pv 2) pa_nil)) (pe_glob (v := V.int 4) (by rfl) (T.k_MOST_SIGNS.choose_spec) ⟨_, rfl⟩) (nomark _)))))))))))), ?_⟩
    have S : Sx P0 F0 H0 F0 H0 := Sx.refl0 hE
    unfold m_is_allowed at hm
    obtain ⟨t1, e2, hm⟩ := bd_some hm
    refine rd_seq ?_
    refine rd_asg ?_
    refine rd_op ?_
    refine rd_v rfl ?_
    refine rd_v rfl ?_
    refine rd_ixT (S.t f_parts) e2 (fun u3 f4 => ?_)
    refine rd_gn ?_
    refine rd_seq ?_
    refine rd_ifS ?_
    refine rd_or ?_
    refine rd_test ?_
    refine rd_op ?_
    refine rd_v rfl ?_
    refine rd_c ?_
    refine rd_I0 ?_
    refine rd_b ?_
    refine or_p (by intro _ Q' q; refine rd_not ?_; refine rd_tB ?_; refine rd_cb ?_; refine rd_cons ?_; refine rd_v rfl ?_; refine rd_cons ?_; refine rd_c ?_; refine rd_nil ?_; refine rd_isiTh (n := "str") (tx_th S f4) (by decide +kernel) ?_; refine rd_b ?_; exact q) ?_
    refine if_b hm (fun b5 hm => ?_) (fun b5 hm => ?_)
    · skip
      cases hm
      refine rd_ret ?_
      refine rd_c ?_
      exact hQ _ _ _ S rfl
    · skip
      obtain ⟨t6, e7, hm⟩ := bd_some hm
      have e8 := thS_fact f4 e7
      cases e8
      refine rd_next ?_
      refine rd_seq ?_
      refine rd_ifS ?_
      refine rd_test ?_
      refine rd_op ?_
      refine rd_v rfl ?_
      refine rd_c ?_
      refine rd_S0 ?_
      refine rd_b ?_
      refine if_b hm (fun b9 hm => ?_) (fun b9 hm => ?_)
      · skip
        refine rd_ret ?_
        refine rd_op ?_
        refine rd_c ?_
        refine rd_sl ?_
        refine rd_v rfl ?_
        refine rd_np ?_
        refine rd_pt ?_
        refine rd_v rfl ?_
        refine rd_i ?_
        refine rd_slA S f_parts (fun v10 F11 H12 c13 f14 => ?_)
        have S15 := S.call0 c13
        have f_parts := (qT qTh).mono c13.le f_parts
        obtain ⟨t16, e17, hm⟩ := bd_some hm
        have f18 : (qT qS).r K F11 v10 t16 := qT_thAll f14 e17
        cases hm
        refine rd_niS (S15.t f18).q ?_
        exact hQ _ _ _ S15 rfl
      · skip
        have f19 : (qT qS).r K F0 (.ref (He.ga K "FREE_CELLS")) (["<digits>", "<word>", "<any>"] : List Str) := T.q_FREE_CELLS _
        refine rd_next ?_
        refine rd_seq ?_
        refine rd_ifS ?_
        refine rd_test ?_
        refine rd_op ?_
        refine rd_v rfl ?_
        refine rd_c ?_
        refine rd_inS (S.t f19).q ?_
        refine rd_b ?_
        refine if_b hm (fun b20 hm => ?_) (fun b20 hm => ?_)
        · skip
          cases hm
          refine rd_ret ?_
          refine rd_c ?_
          exact hQ _ _ _ S rfl
        · skip
          obtain ⟨t29, e30, hm⟩ := bd_some hm
          refine rd_next ?_
          refine rd_seq ?_
          refine rd_ifS ?_
          refine rd_and ?_
          refine rd_test ?_
          refine rd_op ?_
          refine rd_v rfl ?_
          refine rd_c ?_
          refine rd_I0 ?_
          refine rd_b ?_
          refine and_j (fun c H' => c = t29 ∧ ∃ F', Sx P0 F0 H0 F' H') ?_ ?_ ?_
          · intro b31 Q32 q33
            have e30 := if_t e30 b31
            have S34 := Sx.refl0 S.sub
            obtain ⟨t35, e36, e30⟩ := bd_some e30
            refine rd_test ?_
            refine rd_op ?_
            refine rd_op ?_
            refine rd_v rfl ?_
            refine rd_op ?_
            refine rd_v rfl ?_
            refine rd_c ?_
            refine rd_I0 ?_
            refine rd_ixT (S34.t f_parts) e36 (fun u37 f38 => ?_)
            have f39 : (qT qS).r K F0 (.ref (He.ga K "FREE_CELLS")) (["<digits>", "<word>", "<any>"] : List Str) := T.q_FREE_CELLS _
            obtain ⟨t40, e41, e30⟩ := bd_some e30
            have e42 := thS_fact f38 e41
            cases e42
            cases e30
            refine rd_c ?_
            refine rd_niS (S34.t f39).q ?_
            refine rd_b ?_
            exact q33 _ _ ⟨rfl, F0, S34⟩
          · intro b31
            have e30 := if_f e30 b31
            cases e30
            have S43 := Sx.refl0 S.sub
            exact ⟨rfl, F0, S43⟩
          rintro b47 H45 ⟨rfl, F44, c46⟩
          have S48 := S.call0 c46
          have f_parts := (qT qTh).mono c46.le f_parts
          refine if_b hm (fun b49 hm => ?_) (fun b49 hm => ?_)
          · skip
            cases hm
            refine rd_ret ?_
            refine rd_c ?_
            exact hQ _ _ _ S48 rfl
          · skip
            have f50 : qTh.r K F44 (V.str (t6)) (Th.d (PyData.str (t6))) := (show qTh.r K F44 _ (Th.d (PyData.str (t6))) from Dp.str _)
            obtain ⟨t51, e52, hm⟩ := bd_some hm
            refine rd_next ?_
            refine rd_ret ?_
            refine rd_andV ?_
            refine rd_call ?_
            refine rd_cons ?_
            refine rd_v rfl ?_
            refine rd_nil ?_
            refine ⟨F44, _, _, t51, rfl, S48.sub, f50, e52, fun v56 F53 H54 c55 f57 => ?_⟩
            have S58 := S48.call0 c55
            have f_parts := (qT qTh).mono c55.le f_parts
            cases (show v56 = (V.bl (t51)) from f57)
            obtain ⟨t60, e61, hm⟩ := bd_some hm
            refine rd_b ?_
            refine andV_j (fun c H' => c = V.bl t60 ∧ ∃ F', Sx P0 F53 H54 F' H') ?_ ?_ ?_
            · intro b62 Q63 q64
              have e61 := if_t e61 b62
              have S65 := Sx.refl0 S58.sub
              obtain ⟨g66, e61⟩ := gd_some e61
              cases e61
              refine rd_op ?_
              refine rd_cb ?_
              refine rd_cons ?_
              refine rd_v rfl ?_
              refine rd_nil ?_
              refine rd_lenS g66 ?_
              refine rd_c ?_
              refine rd_I0 ?_
              exact q64 _ _ ⟨rfl, F53, S65⟩
            · intro b62
              have e61 := if_f e61 b62
              cases e61
              have S67 := Sx.refl0 S58.sub
              exact ⟨rfl, F53, S67⟩
            rintro b71 H69 ⟨rfl, F68, c70⟩
            have S72 := S58.call0 c70
            have f_parts := (qT qTh).mono c70.le f_parts
            cases hm
            exact hQ _ _ _ S72 rfl
def sp_Form___init___vx (K : PySem.W.Frag) : Sp := fun vs H Q E => ∃ (F : Hp) (p_self : Addr) (dx : Addr) (v_parts : V) (a_parts : (List Th)) (rr : (Except (Option Int) (List Str))), vs = [.ref p_self, v_parts] ∧ Same F H ∧ Ow (fun a => a = p_self) H F H p_self (.ins (He.ga K "Form") dx []) ∧ (qT qTh).r K F v_parts a_parts ∧ m_Form___init___vx a_parts = some rr ∧ (∀ r, rr = .ok r → ∀ (F' H' : Hp) (u0 : V), Sx (fun a => a = p_self) F H F' H' → Ow (fun a => a = p_self) H F' H' p_self (.ins (He.ga K "Form") dx [("pieces", u0)]) → (qT qS).r K F' u0 r → Q .non H') ∧ (∀ e cls d F' H', rr = .error e → Sx (fun a => a = p_self) F H F' H' → ErrAt K H' "NoForm" ["at"] [ovI e] cls d → E cls d H')
theorem sc_Form___init___vx : FnScope ["self", "parts", "at"] ["self", "parts"] (defScope s_Form___init__) := ⟨rfl, rfl, rfl, by decide +kernel, rfl, by decide +kernel, by decide +kernel⟩
theorem ok_Form___init___vx (T : Tx P K mg) : FnR P w K mg base (L2N.CX P w) 3 (He.fAd K ("Form", some "__init__")) (starSp 1 (sp_Form___init___vx K)) := by
  obtain ⟨oc, od, dV, kV, doc, pm, an, cdv, ct, osl, efd, lk, hcd, hD, _⟩ := T.F_Form___init__.ex
  rw [efd] at lk
  obtain ⟨_, rfl⟩ | ⟨nD, _⟩ := hD
  rotate_left
  · exact absurd rfl nD
  refine StX.fn_star (ps := ["self"]) (pv := "parts") lk hcd sc_Form___init___vx cxUpN (fun us rest hl => StX.bind_star1 (p1 := "self") (pv := "parts") (B := fun us => bindArgs (PySem.W.fnOf _ _ _ _ _ .none kV doc pm an cdv ct) ⟨us, []⟩) (fun a => by rfl) (fun a r rs => by rfl) us rest hl) (fun A outer s H0 vs Q E hr h => ?_)
  · obtain ⟨F0, p_self, dx, v_parts, a_parts, rr, rfl, hE, w_self, f_parts, hm, hQ, hX⟩ := h
    refine ⟨_, (pss_cons (ps_if (pt_cmpR op_eqI (pe_callB (r := rLenQ K) cr_lenQ (by rfl) T.n_len (by decide +kernel) (pa_cons (pv 1) pa_nil)) pe_int (nomark _)) (pss_one (ps_rzN (pmk_errN (k := 0) T.er_NoForm.c is_NoForm T.er_NoForm.no T.er_NoForm.g T.er_NoForm.k (room_h (hr.mono (by decide))) (by rfl) (pa_cons pe_non pa_nil)).n)) pss_nil) (pss_cons (ps_for owns_cxN rfl (pi_range1 (by rfl) T.n_range (pa_cons (pe_callB (r := rLenQ K) cr_lenQ (by rfl) T.n_len (by decide +kernel) (pa_cons (pv 1) pa_nil)) pa_nil)) (pg_name (i := 2) sc_Form___init___vx.nd rfl (dk rfl)) (pss_one (ps_if (pt_not (pt_val (pe_call (ok_is_allowed T) (hr.mono (by decide)) (by rfl) T.g_is_allowed T.F_is_allowed.kp (bn_is_allowed T) .nil pass0 (pa_cons (pv 1) (pa_cons (pv 2) pa_nil))))) (pss_one (ps_rzN (pmk_errN (k := 0) T.er_NoForm.c is_NoForm T.er_NoForm.no T.er_NoForm.g T.er_NoForm.k (room_h (hr.mono (by decide))) (by rfl) (pa_cons (pv 2) pa_nil)).n)) pss_nil))) (pss_one (ps_fld (pv 0) (pv 1) rfl)))), ?_⟩
    have S : Sx (fun a => a = p_self) F0 H0 F0 H0 := Sx.refl hE (live1 w_self)
    unfold m_Form___init___vx at hm
    refine rd_seq ?_
    refine rd_ifS ?_
    refine rd_test ?_
    refine rd_op ?_
    refine rd_cb ?_
    refine rd_cons ?_
    refine rd_v rfl ?_
    refine rd_nil ?_
    refine rd_lenQ (S.t f_parts).q ?_
    refine rd_c ?_
    refine rd_I0 ?_
    refine rd_b ?_
    refine if_b hm (fun b1 hm => ?_) (fun b1 hm => ?_)
    · skip
      cases hm
      refine rd_rz ?_
      refine rd_cons ?_
      refine rd_c ?_
      refine rd_nil ?_
      exact rd_eK (xs := [ovI ((none) : (Option Int))]) S rfl rfl fun cls d H1 c er => hX _ _ _ _ _ rfl c er
    · skip
      obtain ⟨g2, hm⟩ := gd_some hm
      refine rd_next ?_
      refine rd_seq ?_
      refine rd_for ?_
      refine rd_iR1 ?_
      refine rd_cons ?_
      refine rd_cb ?_
      refine rd_cons ?_
      refine rd_v rfl ?_
      refine rd_nil ?_
      refine rd_lenQ (S.t f_parts).q ?_
      refine rd_nil ?_
      refine rd_r1 g2 ?_
      obtain ⟨t3, e4, hm⟩ := bd_some hm
      refine rd_forC feedsRg (typedR (K := K) (F := F0)) e4 (fun (s5 : Unit) σ H => ∃ (F : Hp) (o2 : Option V), σ = [some (V.ref p_self), some v_parts, o2] ∧ Sx P0 F0 H0 F H) ?_ ?_ ?_ ?_
      · intro _ _ _ _; trivial
      · skip
        have S7 := Sx.refl0 S.sub
        exact ⟨F0, _, rfl, S7⟩
      · skip
        rintro x8 v9 s10 c14 σ11 H12 f13 ⟨F15, o17, rfl, S16⟩ hm20 hbk18 hrt19
        have f_parts := (qT qTh).mono S16.le f_parts
        have w_self := w_self.call0 S16
        unfold m_Form___init___vx_b1 at hm20
        cases (show v9 = (V.int (x8)) from f13)
        obtain ⟨t21, e22, hm20⟩ := bd_some hm20
        refine rd_gn ?_
        refine rd_ifS ?_
        refine rd_not ?_
        refine rd_tB ?_
        refine rd_call ?_
        refine rd_cons ?_
        refine rd_v rfl ?_
        refine rd_cons ?_
        refine rd_v rfl ?_
        refine rd_nil ?_
        refine ⟨F15, _, _, _, t21, rfl, S16.sub, f_parts, e22, fun v26 F23 H24 c25 f27 => ?_⟩
        have S28 := S16.call0 c25
        have f_parts := (qT qTh).mono c25.le f_parts
        have w_self := w_self.call0 c25
        cases (show v26 = (V.bl (t21)) from f27)
        refine rd_b ?_
        refine if_b hm20 (fun b29 hm20 => ?_) (fun b29 hm20 => ?_)
        · skip
          cases hm20
          have e30 := hrt19 _ rfl
          subst e30
          have hm := aft_rt hm
          have S31 := S.call0 S28
          cases hm
          refine rd_rz ?_
          refine rd_cons ?_
          refine rd_v rfl ?_
          refine rd_nil ?_
          exact rd_eK (xs := [ovI (((some x8)) : (Option Int))]) S31 rfl rfl fun cls d H1 c er => hX _ _ _ _ _ rfl c er
        · skip
          cases hm20
          refine rd_next ?_
          exact ⟨_, rfl, ⟨F23, _, rfl, S28⟩⟩
      · skip
        rintro s34 σ32 H33 e35 ⟨F36, o38, rfl, S37⟩
        subst e35
        have hm := aft_nx hm
        have S39 := S.call0 S37
        have f_parts := (qT qTh).mono S37.le f_parts
        have w_self := w_self.call0 S37
        obtain ⟨t40, e41, hm⟩ := bd_some hm
        have f42 : (qT qS).r K F36 v_parts t40 := qT_thAll f_parts e41
        refine rd_sfld ?_
        refine rd_v rfl ?_
        refine rd_v rfl ?_
        refine fset (fs' := [("pieces", v_parts)]) S39 w_self T.c_Form T.na_Form_pieces (by rfl) (by rfl) (fun H43 c44 w45 => ?_)
        have f46 : (qT qS).r K F36 v_parts t40 := f42
        have S47 := S39.call1 c44 w_self
        have f_parts := (qT qTh).mono c44.le f_parts
        have f46 := (qT qS).mono c44.le f46
        cases hm
        exact hQ _ rfl _ _ v_parts S47 w45 f46
theorem newx_Form {P0' : Addr → Prop} {F0 H0 F H : Hp} {Q : VK} {E : XK} {vs : List V} {xs : List Th} {rr : (Except (Option Int) (List Str))} (S : Sx P0' F0 H0 F H) (row : Row qTh K F vs xs) (hl : Nat.ble vs.length 900 = true) (hm : m_Form___init___vx xs = some rr) (k : ∀ r, rr = .ok r → ∀ v F' H', Sx P0 F H F' H' → qForm.r K F' v r → Q v H') (kx : ∀ e cls d F' H', rr = .error e → Sx P0 F H F' H' → ErrAt K H' "NoForm" ["at"] [ovI e] cls d → E cls d H') : mkK (He.ga K "Form") (starSp 1 (sp_Form___init___vx K)) E Q vs H := by
  refine mk_star S row hl fun x dx v F1 H1 hx c1 w rv => ?_
  refine ⟨F1, x, dx, v, xs, rr, rfl, c1.sub, w, rv, hm, fun r er F' H' u0 c w' k0 => ⟨rfl, ?_⟩, fun e cls d F' H' ee c ea => kx e cls d F' H' ee (c1.call c fun a z => .inr (by rw [z]; exact hx)) ea⟩
  obtain ⟨F2, S2, le, h3⟩ := fzI c1 hx c w'
  exact k r er _ F2 H' S2 ⟨x, dx, u0, rfl, h3, (qT qS).mono le k0⟩
def sp_law_made_vx (K : PySem.W.Frag) : Sp := fun vs H Q E => ∃ (F : Hp) (v__law_parts : V) (a__law_parts : (List Th)) (rr : (Except (Option Int) (List Str))), vs = [v__law_parts] ∧ Same F H ∧ (qL qTh).r K F v__law_parts a__law_parts ∧ m_law_made_vx a__law_parts = some rr ∧ (∀ r, rr = .ok r → ∀ v F' H', Sx P0 F H F' H' → qForm.r K F' v r → Q v H') ∧ (∀ e cls d F' H', rr = .error e → Sx P0 F H F' H' → ErrAt K H' "NoForm" ["at"] [ovI e] cls d → E cls d H')
theorem sc_law_made_vx : FnScope ["_law_parts"] ["_law_parts"] (defScope s_law_made) := ⟨rfl, rfl, rfl, by decide +kernel, rfl, by decide +kernel, by decide +kernel⟩
theorem bn_law_made_vx (T : Tx P K mg) : Binds K (fdOf K ("_law_made", none)) ["_law_parts"] [] := FunD.bindsN T.F_law_made fun _ _ _ _ _ _ us hl => match us, hl with | [_], _ => rfl
theorem ok_law_made_vx (T : Tx P K mg) : FnOk P w K mg base (L2N.CX P w) 5 (He.ga K "_law_made") (fdOf K ("_law_made", none)) ["_law_parts"] (sp_law_made_vx K) := by
  refine FunD.ok T.F_law_made sc_law_made_vx (fun vs H0 Q E h => ?_) (fun cdv A outer s H0 vs Q E hr h => ?_)
  · obtain ⟨_, _, _, _, rfl, _⟩ := h
    rfl
  · obtain ⟨F0, v__law_parts, a__law_parts, rr, rfl, hE, f__law_parts, hm, hQ, hX⟩ := h
    refine ⟨_, (pss_cons (ps_if (pt_cmpR (r := rEqNil K) (op_eqNil (Nat.lt_of_le_of_lt (Nat.le_add_right _ _) hr.units)) (pv 0) (pe_lst pa_nil) (nomark _)) (pss_one (ps_ret (pe_makeR0 T.mk_Form (ok_Form___init___vx T) (hr.mono (by decide)) (by rfl) T.gc_Form passes_cxN))) pss_nil) (pss_cons (ps_if (pt_cmpR op_eqI (pe_callB (r := rLenQ K) cr_lenQ (by rfl) T.n_len (by decide +kernel) (pa_cons (pv 0) pa_nil)) pe_int (nomark _)) (pss_one (ps_ret (StX.pe_makeR T.mk_Form (ok_Form___init___vx T) (hr.mono (by decide)) (by rfl) T.gc_Form passes_cxN (pa_cons (pe_ix (r := rIxL K) ix_list (pv 0) pe_int (fun _ _ => rfl)) pa_nil)))) pss_nil) (pss_cons (ps_if (pt_cmpR op_eqI (pe_callB (r := rLenQ K) cr_lenQ (by rfl) T.n_len (by decide +kernel) (pa_cons (pv 0) pa_nil)) pe_int (nomark _)) (pss_one (ps_ret (StX.pe_makeR T.mk_Form (ok_Form___init___vx T) (hr.mono (by decide)) (by rfl) T.gc_Form passes_cxN (pa_cons (pe_ix (r := rIxL K) ix_list (pv 0) pe_int (fun _ _ => rfl)) (pa_cons (pe_ix (r := rIxL K) ix_list (pv 0) pe_int (fun _ _ => rfl)) pa_nil))))) pss_nil) (pss_cons (ps_if (pt_cmpR op_eqI (pe_callB (r := rLenQ K) cr_lenQ (by rfl) T.n_len (by decide +kernel) (pa_cons (pv 0) pa_nil)) pe_int (nomark _)) (pss_one (ps_ret (StX.pe_makeR T.mk_Form (ok_Form___init___vx T) (hr.mono (by decide)) (by rfl) T.gc_Form passes_cxN (pa_cons (pe_ix (r := rIxL K) ix_list (pv 0) pe_int (fun _ _ => rfl)) (pa_cons (pe_ix (r := rIxL K) ix_list (pv 0) pe_int (fun _ _ => rfl)) (pa_cons (pe_ix (r := rIxL K) ix_list (pv 0) pe_int (fun _ _ => rfl)) pa_nil)))))) pss_nil) (pss_cons (ps_if (pt_cmpR op_eqI (pe_callB (r := rLenQ K) cr_lenQ (by rfl) T.n_len (by decide +kernel) (pa_cons (pv 0) pa_nil)) pe_int (nomark _)) (pss_one (ps_ret (StX.pe_makeR T.mk_Form (ok_Form___init___vx T) (hr.mono (by decide)) (by rfl) T.gc_Form passes_cxN (pa_cons (pe_ix (r := rIxL K) ix_list (pv 0) pe_int (fun _ _ => rfl)) (pa_cons (pe_ix (r := rIxL K) ix_list (pv 0) pe_int (fun _ _ => rfl)) (pa_cons (pe_ix (r := rIxL K) ix_list (pv 0) pe_int (fun _ _ => rfl)) (pa_cons (pe_ix (r := rIxL K) ix_list (pv 0) pe_int (fun _ _ => rfl)) pa_nil))))))) pss_nil) (pss_one (ps_ret (StX.pe_makeR T.mk_Form (ok_Form___init___vx T) (hr.mono (by decide)) (by rfl) T.gc_Form passes_cxN (pa_cons (pe_ix (r := rIxL K) ix_list (pv 0) pe_int (fun _ _ => rfl)) (pa_cons (pe_ix (r := rIxL K) ix_list (pv 0) pe_int (fun _ _ => rfl)) (pa_cons (pe_ix (r := rIxL K) ix_list (pv 0) pe_int (fun _ _ => rfl)) (pa_cons (pe_ix (r := rIxL K) ix_list (pv 0) pe_int (fun _ _ => rfl)) (pa_cons (pe_ix (r := rIxL K) ix_list (pv 0) pe_int (fun _ _ => rfl)) pa_nil))))))))))))), ?_⟩
    have S : Sx P0 F0 H0 F0 H0 := Sx.refl0 hE
    unfold m_law_made_vx at hm
    refine rd_seq ?_
    refine rd_ifS ?_
    refine rd_test ?_
    refine rd_op ?_
    refine rd_v rfl ?_
    refine rd_lst ?_
    refine rd_nil ?_
    refine rd_lK rfl ?_
    refine alL (K := K) (A := qTh) (xs := ([] : List Th)) S .nil (fun v1 F2 H3 c4 f5 => ?_)
    have S6 := S.call0 c4
    have f__law_parts := (qL qTh).mono c4.le f__law_parts
    refine rd_eqNil (B := qTh) (S6.l f__law_parts).r (S6.l f5).r ?_
    refine rd_b ?_
    refine if_b hm (fun b7 hm => ?_) (fun b7 hm => ?_)
    · skip
      obtain ⟨t8, e9, hm⟩ := bd_some hm
      refine rd_ret ?_
      refine rd_makeR ?_
      refine rd_nil ?_
      refine newx_Form S6 .nil rfl e9 ?_ ?_
      rotate_left
      · skip
        intro x17 cls18 d19 F20 H21 ee22 c23 ea24
        exact hX _ _ _ _ _ (exB_err ee22 hm) (S6.call0 c23) ea24
      intro t10 er11 v12 F13 H14 c15 f16
      subst er11
      have hm := exB_ok hm
      have S25 := S6.call0 c15
      have f__law_parts := (qL qTh).mono c15.le f__law_parts
      cases hm
      exact hQ _ rfl _ _ _ S25 f16
    · skip
      refine rd_next ?_
      refine rd_seq ?_
      refine rd_ifS ?_
      refine rd_test ?_
      refine rd_op ?_
      refine rd_cb ?_
      refine rd_cons ?_
      refine rd_v rfl ?_
      refine rd_nil ?_
      refine rd_lenQ (S6.l f__law_parts).r.q ?_
      refine rd_c ?_
      refine rd_I0 ?_
      refine rd_b ?_
      refine if_b hm (fun b26 hm => ?_) (fun b26 hm => ?_)
      · skip
        obtain ⟨t27, e28, hm⟩ := bd_some hm
        refine rd_ret ?_
        refine rd_makeR ?_
        refine rd_cons ?_
        refine rd_op ?_
        refine rd_v rfl ?_
        refine rd_c ?_
        refine rd_ixL (S6.l f__law_parts).r e28 (fun u29 f30 => ?_)
        obtain ⟨t31, e32, hm⟩ := bd_some hm
        refine rd_nil ?_
        refine newx_Form S6 (.cons f30 .nil) rfl e32 ?_ ?_
        rotate_left
        · skip
          intro x40 cls41 d42 F43 H44 ee45 c46 ea47
          exact hX _ _ _ _ _ (exB_err ee45 hm) (S6.call0 c46) ea47
        intro t33 er34 v35 F36 H37 c38 f39
        subst er34
        have hm := exB_ok hm
        have S48 := S6.call0 c38
        have f__law_parts := (qL qTh).mono c38.le f__law_parts
        cases hm
        exact hQ _ rfl _ _ _ S48 f39
      · skip
        refine rd_next ?_
        refine rd_seq ?_
        refine rd_ifS ?_
        refine rd_test ?_
        refine rd_op ?_
        refine rd_cb ?_
        refine rd_cons ?_
        refine rd_v rfl ?_
        refine rd_nil ?_
        refine rd_lenQ (S6.l f__law_parts).r.q ?_
        refine rd_c ?_
        refine rd_I0 ?_
        refine rd_b ?_
        refine if_b hm (fun b49 hm => ?_) (fun b49 hm => ?_)
        · skip
          obtain ⟨t50, e51, hm⟩ := bd_some hm
          refine rd_ret ?_
          refine rd_makeR ?_
          refine rd_cons ?_
          refine rd_op ?_
          refine rd_v rfl ?_
          refine rd_c ?_
          refine rd_ixL (S6.l f__law_parts).r e51 (fun u52 f53 => ?_)
          obtain ⟨t54, e55, hm⟩ := bd_some hm
          refine rd_cons ?_
          refine rd_op ?_
          refine rd_v rfl ?_
          refine rd_c ?_
          refine rd_ixL (S6.l f__law_parts).r e55 (fun u56 f57 => ?_)
          obtain ⟨t58, e59, hm⟩ := bd_some hm
          refine rd_nil ?_
          refine newx_Form S6 (.cons f53 (.cons f57 .nil)) rfl e59 ?_ ?_
          rotate_left
          · skip
            intro x67 cls68 d69 F70 H71 ee72 c73 ea74
            exact hX _ _ _ _ _ (exB_err ee72 hm) (S6.call0 c73) ea74
          intro t60 er61 v62 F63 H64 c65 f66
          subst er61
          have hm := exB_ok hm
          have S75 := S6.call0 c65
          have f__law_parts := (qL qTh).mono c65.le f__law_parts
          cases hm
          exact hQ _ rfl _ _ _ S75 f66
        · skip
          refine rd_next ?_
          refine rd_seq ?_
          refine rd_ifS ?_
          refine rd_test ?_
          refine rd_op ?_
          refine rd_cb ?_
          refine rd_cons ?_
          refine rd_v rfl ?_
          refine rd_nil ?_
          refine rd_lenQ (S6.l f__law_parts).r.q ?_
          refine rd_c ?_
          refine rd_I0 ?_
          refine rd_b ?_
          refine if_b hm (fun b76 hm => ?_) (fun b76 hm => ?_)
          · skip
            obtain ⟨t77, e78, hm⟩ := bd_some hm
            refine rd_ret ?_
            refine rd_makeR ?_
            refine rd_cons ?_
            refine rd_op ?_
            refine rd_v rfl ?_
            refine rd_c ?_
            refine rd_ixL (S6.l f__law_parts).r e78 (fun u79 f80 => ?_)
            obtain ⟨t81, e82, hm⟩ := bd_some hm
            refine rd_cons ?_
            refine rd_op ?_
            refine rd_v rfl ?_
            refine rd_c ?_
            refine rd_ixL (S6.l f__law_parts).r e82 (fun u83 f84 => ?_)
            obtain ⟨t85, e86, hm⟩ := bd_some hm
            refine rd_cons ?_
            refine rd_op ?_
            refine rd_v rfl ?_
            refine rd_c ?_
            refine rd_ixL (S6.l f__law_parts).r e86 (fun u87 f88 => ?_)
            obtain ⟨t89, e90, hm⟩ := bd_some hm
            refine rd_nil ?_
            refine newx_Form S6 (.cons f80 (.cons f84 (.cons f88 .nil))) rfl e90 ?_ ?_
            rotate_left
            · skip
              intro x98 cls99 d100 F101 H102 ee103 c104 ea105
              exact hX _ _ _ _ _ (exB_err ee103 hm) (S6.call0 c104) ea105
            intro t91 er92 v93 F94 H95 c96 f97
            subst er92
            have hm := exB_ok hm
            have S106 := S6.call0 c96
            have f__law_parts := (qL qTh).mono c96.le f__law_parts
            cases hm
            exact hQ _ rfl _ _ _ S106 f97
          · skip
            refine rd_next ?_
            refine rd_seq ?_
            refine rd_ifS ?_
            refine rd_test ?_
            refine rd_op ?_
            refine rd_cb ?_
            refine rd_cons ?_
            refine rd_v rfl ?_
            refine rd_nil ?_
            refine rd_lenQ (S6.l f__law_parts).r.q ?_
            refine rd_c ?_
            refine rd_I0 ?_
            refine rd_b ?_
            refine if_b hm (fun b107 hm => ?_) (fun b107 hm => ?_)
            · skip
              obtain ⟨t108, e109, hm⟩ := bd_some hm
              refine rd_ret ?_
              refine rd_makeR ?_
              refine rd_cons ?_
              refine rd_op ?_
              refine rd_v rfl ?_
              refine rd_c ?_
              refine rd_ixL (S6.l f__law_parts).r e109 (fun u110 f111 => ?_)
              obtain ⟨t112, e113, hm⟩ := bd_some hm
              refine rd_cons ?_
              refine rd_op ?_
              refine rd_v rfl ?_
              refine rd_c ?_
              refine rd_ixL (S6.l f__law_parts).r e113 (fun u114 f115 => ?_)
              obtain ⟨t116, e117, hm⟩ := bd_some hm
              refine rd_cons ?_
              refine rd_op ?_
              refine rd_v rfl ?_
              refine rd_c ?_
              refine rd_ixL (S6.l f__law_parts).r e117 (fun u118 f119 => ?_)
              obtain ⟨t120, e121, hm⟩ := bd_some hm
              refine rd_cons ?_
              refine rd_op ?_
              refine rd_v rfl ?_
              refine rd_c ?_
              refine rd_ixL (S6.l f__law_parts).r e121 (fun u122 f123 => ?_)
              obtain ⟨t124, e125, hm⟩ := bd_some hm
              refine rd_nil ?_
              refine newx_Form S6 (.cons f111 (.cons f115 (.cons f119 (.cons f123 .nil)))) rfl e125 ?_ ?_
              rotate_left
              · skip
                intro x133 cls134 d135 F136 H137 ee138 c139 ea140
                exact hX _ _ _ _ _ (exB_err ee138 hm) (S6.call0 c139) ea140
              intro t126 er127 v128 F129 H130 c131 f132
              subst er127
              have hm := exB_ok hm
              have S141 := S6.call0 c131
              have f__law_parts := (qL qTh).mono c131.le f__law_parts
              cases hm
              exact hQ _ rfl _ _ _ S141 f132
            · skip
              obtain ⟨t142, e143, hm⟩ := bd_some hm
              refine rd_next ?_
              refine rd_ret ?_
              refine rd_makeR ?_
              refine rd_cons ?_
              refine rd_op ?_
              refine rd_v rfl ?_
              refine rd_c ?_
              refine rd_ixL (S6.l f__law_parts).r e143 (fun u144 f145 => ?_)
              obtain ⟨t146, e147, hm⟩ := bd_some hm
              refine rd_cons ?_
              refine rd_op ?_
              refine rd_v rfl ?_
              refine rd_c ?_
              refine rd_ixL (S6.l f__law_parts).r e147 (fun u148 f149 => ?_)
              obtain ⟨t150, e151, hm⟩ := bd_some hm
              refine rd_cons ?_
              refine rd_op ?_
              refine rd_v rfl ?_
              refine rd_c ?_
              refine rd_ixL (S6.l f__law_parts).r e151 (fun u152 f153 => ?_)
              obtain ⟨t154, e155, hm⟩ := bd_some hm
              refine rd_cons ?_
              refine rd_op ?_
              refine rd_v rfl ?_
              refine rd_c ?_
              refine rd_ixL (S6.l f__law_parts).r e155 (fun u156 f157 => ?_)
              obtain ⟨t158, e159, hm⟩ := bd_some hm
              refine rd_cons ?_
              refine rd_op ?_
              refine rd_v rfl ?_
              refine rd_c ?_
              refine rd_ixL (S6.l f__law_parts).r e159 (fun u160 f161 => ?_)
              obtain ⟨t162, e163, hm⟩ := bd_some hm
              refine rd_nil ?_
              refine newx_Form S6 (.cons f145 (.cons f149 (.cons f153 (.cons f157 (.cons f161 .nil))))) rfl e163 ?_ ?_
              rotate_left
              · skip
                intro x171 cls172 d173 F174 H175 ee176 c177 ea178
                exact hX _ _ _ _ _ (exB_err ee176 hm) (S6.call0 c177) ea178
              intro t164 er165 v166 F167 H168 c169 f170
              subst er165
              have hm := exB_ok hm
              have S179 := S6.call0 c169
              have f__law_parts := (qL qTh).mono c169.le f__law_parts
              cases hm
              exact hQ _ rfl _ _ _ S179 f170
def sp_law_other (a9 : Addr) (cls9 : Value) (d9 : Option Addr) (K : PySem.W.Frag) : Sp := fun vs H Q _ => ∃ (F : Hp) (dd9 : Addr) (l9 : List (Str × V)) (r : Bool), vs = [.ref a9] ∧ Same F H ∧ cls9 = .ref (He.ga K "NoForm") ∧ d9 = some dd9 ∧ H dd9 = some (.xd l9) ∧ m_law_other = some r ∧ ∀ v F' H', Sx P0 F H F' H' → qB.r K F' v r → Q v H'
theorem sc_law_other : FnScope ["_law_e"] ["_law_e"] (defScope s_law_other) := ⟨rfl, rfl, rfl, by decide +kernel, rfl, by decide +kernel, by decide +kernel⟩
theorem bn_law_other (T : Tx P K mg) : Binds K (fdOf K ("_law_other", none)) ["_law_e"] [] := FunD.bindsN T.F_law_other fun _ _ _ _ _ _ us hl => match us, hl with | [_], _ => rfl
theorem ok_law_other (T : Tx P K mg) {a9 : Addr} {oe9 : Obj} {cls9 : Value} {d9 : Option Addr} (hz9 : Zc cls9 d9 oe9) (hf9 : ∃ vs9, oe9.data = .fields vs9) : FnE P w K mg base 1 (He.ga K "_law_other") (fdOf K ("_law_other", none)) ["_law_e"] (a9, oe9) (sp_law_other a9 cls9 d9 K) := by
  refine fne_of T.F_law_other sc_law_other (fun vs H0 Q E h => ?_) (fun cdv A outer s H0 vs Q E h => ?_)
  · obtain ⟨_, _, _, _, rfl, _⟩ := h
    rfl
  · obtain ⟨F0, dd9, l9, r, rfl, hE, rfl, rfl, hx9, hm, hQ⟩ := h
    refine ⟨_, PSs.nox ((pss_cons (ps_if (pt_val (pe_callB (r := rIsXT K (He.ga K "NoForm") a9 (some dd9)) (cr_isXT T.ie_NoForm hz9 hf9 (List.mem_singleton.mpr rfl)) (by rfl) T.n_isinstance (by decide +kernel) (pa_cons (pv 0) (pa_cons (pe_tup (pa_cons (pe_glob (v := V.ref (He.ga K "NoChange")) (by rfl) T.gx_NoChange rfl) (pa_cons (pe_glob (v := V.ref (He.ga K "NoCrew")) (by rfl) T.gx_NoCrew rfl) (pa_cons (pe_glob (v := V.ref (He.ga K "NoGrammar")) (by rfl) T.gx_NoGrammar rfl) (pa_cons (pe_glob (v := V.ref (He.ga K "NoName")) (by rfl) T.gx_NoName rfl) (pa_cons (pe_glob (v := V.ref (He.ga K "NoOutput")) (by rfl) T.gx_NoOutput rfl) (pa_cons (pe_glob (v := V.ref (He.ga K "NoRow")) (by rfl) T.gx_NoRow rfl) (pa_cons (pe_glob (v := V.ref (He.ga K "NoRows")) (by rfl) T.gx_NoRows rfl) (pa_cons (pe_glob (v := V.ref (He.ga K "NoRule")) (by rfl) T.gx_NoRule rfl) (pa_cons (pe_glob (v := V.ref (He.ga K "NoText")) (by rfl) T.gx_NoText rfl) pa_nil)))))))))) pa_nil)))) pss_dead pss_nil) (pss_one (ps_ret (pe_or (pe_callB (r := rIsXT K (He.ga K "NoForm") a9 (some dd9)) (cr_isXT T.ie_NoForm hz9 hf9 (List.mem_singleton.mpr rfl)) (by rfl) T.n_isinstance (by decide +kernel) (pa_cons (pv 0) (pa_cons (pe_tup (pa_cons (pe_glob (v := V.ref (He.ga K "NotEnough")) (by rfl) T.gx_NotEnough rfl) (pa_cons (pe_glob (v := V.ref (He.ga K "NotRight")) (by rfl) T.gx_NotRight rfl) pa_nil))) pa_nil))) (pe_or (pe_not (pe_callB (r := rIsX K (He.ga K "NoForm") a9 (.ref (He.ga K "NoForm")) (some dd9)) (cr_isXP T.ie_NoForm hz9 hf9 (List.mem_singleton.mpr rfl)) (by rfl) T.n_isinstance (by decide +kernel) (pa_cons (pv 0) (pa_cons (pe_glob (v := V.ref (He.ga K "GlueError")) (by rfl) T.gx_GlueError rfl) pa_nil)))) (pe_one (pe_not (pe_callB (r := rIsX K (He.ga K "NoForm") a9 (.ref (He.ga K "NoForm")) (some dd9)) (cr_isXP T.ie_NoForm hz9 hf9 (List.mem_singleton.mpr rfl)) (by rfl) T.n_isinstance (by decide +kernel) (pa_cons (pv 0) (pa_cons (pe_bltn (v := V.ty "ValueError") (by rfl) T.n_ValueError (by decide +kernel) rfl) pa_nil))))))))))), ?_⟩
    have S : Sx P0 F0 H0 F0 H0 := Sx.refl0 hE
    unfold m_law_other at hm
    refine rd_seq ?_
    refine rd_ifS ?_
    refine rd_tB ?_
    refine rd_cb ?_
    refine rd_cons ?_
    refine rd_v rfl ?_
    refine rd_cons ?_
    refine rd_tup ?_
    refine rd_cons ?_
    refine rd_c ?_
    refine rd_cons ?_
    refine rd_c ?_
    refine rd_cons ?_
    refine rd_c ?_
    refine rd_cons ?_
    refine rd_c ?_
    refine rd_cons ?_
    refine rd_c ?_
    refine rd_cons ?_
    refine rd_c ?_
    refine rd_cons ?_
    refine rd_c ?_
    refine rd_cons ?_
    refine rd_c ?_
    refine rd_cons ?_
    refine rd_c ?_
    refine rd_nil ?_
    refine rd_uK rfl ?_
    refine rd_isXT (D := He.ga K "NoForm") S hx9 (.cons (.own _) (.cons (.own _) (.cons (.own _) (.cons (.own _) (.cons (.own _) (.cons (.own _) (.cons (.own _) (.cons (.own _) (.cons (.own _) .nil))))))))) T.ka_NoForm_NoChange_NoCrew_NoGrammar_NoName_NoOutput_NoRow_NoRows_NoRule_NoText (fun F1 H2 c3 => ?_)
    have S4 := S.call0 c3
    have hx9 := c3.same _ _ hx9 (fun z => z)
    refine rd_b ?_
    refine if_ff ?_
    refine rd_next ?_
    refine rd_ret ?_
    refine rd_orV ?_
    refine rd_cb ?_
    refine rd_cons ?_
    refine rd_v rfl ?_
    refine rd_cons ?_
    refine rd_tup ?_
    refine rd_cons ?_
    refine rd_c ?_
    refine rd_cons ?_
    refine rd_c ?_
    refine rd_nil ?_
    refine rd_uK rfl ?_
    refine rd_isXT (D := He.ga K "NoForm") S4 hx9 (.cons (.own _) (.cons (.own _) .nil)) T.ka_NoForm_NotEnough_NotRight (fun F5 H6 c7 => ?_)
    have S8 := S4.call0 c7
    have hx9 := c7.same _ _ hx9 (fun z => z)
    cases hm
    refine rd_b ?_
    refine if_ff ?_
    refine rd_orV ?_
    refine rd_notV ?_
    refine rd_cb ?_
    refine rd_cons ?_
    refine rd_v rfl ?_
    refine rd_cons ?_
    refine rd_c ?_
    refine rd_nil ?_
    refine rd_isX (cx := V.ref (He.ga K "GlueError")) hx9 (fun _ h => h) T.ki_NoForm_GlueError ?_
    refine rd_b ?_
    refine rd_b ?_
    refine if_ff ?_
    refine rd_notV ?_
    refine rd_cb ?_
    refine rd_cons ?_
    refine rd_v rfl ?_
    refine rd_cons ?_
    refine rd_c ?_
    refine rd_nil ?_
    refine rd_isX (cx := V.ty "ValueError") hx9 (fun _ h => h) T.ki_NoForm_ValueError ?_
    refine rd_b ?_
    exact hQ _ _ _ S8 rfl
def sp_law_right (K : PySem.W.Frag) : Sp := fun vs H Q _ => ∃ (F : Hp) (v__law_parts : V) (a__law_parts : (List Th)) (r : Bool), vs = [v__law_parts] ∧ Same F H ∧ (qL qTh).r K F v__law_parts a__law_parts ∧ m_law_right a__law_parts = some r ∧ ∀ v F' H', Sx P0 F H F' H' → qB.r K F' v r → Q v H'
theorem sc_law_right : FnScope ["_law_parts", "_law_due", "_law_form", "_law_e", "_law_kept"] ["_law_parts"] (defScope s_law_right) := ⟨rfl, rfl, rfl, by decide +kernel, rfl, by decide +kernel, by decide +kernel⟩
theorem bn_law_right (T : Tx P K mg) : Binds K (fdOf K ("_law_right", none)) ["_law_parts"] [] := FunD.bindsN T.F_law_right fun _ _ _ _ _ _ us hl => match us, hl with | [_], _ => rfl
theorem ok_law_right (T : Tx P K mg) : FnOk P w K mg base CX0 6 (He.ga K "_law_right") (fdOf K ("_law_right", none)) ["_law_parts"] (sp_law_right K) := by
  refine FunD.ok T.F_law_right sc_law_right (fun vs H0 Q E h => ?_) (fun cdv A outer s H0 vs Q E hr h => ?_)
  · obtain ⟨_, _, _, _, rfl, _⟩ := h
    rfl
  · obtain ⟨F0, v__law_parts, a__law_parts, r, rfl, hE, f__law_parts, hm, hQ⟩ := h
    refine ⟨_, PSs.nox ((pss_cons (ps_set (i := 1) sc_law_right.nd rfl (dk rfl) (pe_call (ok_law_first_bad T) (hr.mono (by decide)) (by rfl) T.g_law_first_bad T.F_law_first_bad.kp (bn_law_first_bad T) .nil pass0 (pa_cons (pv 0) pa_nil))) (pss_cons (ps_tryNK (i := 3) rfl rfl sc_law_right.nd rfl rfl ⟨by rfl, by decide, .inl T.gx_NoForm⟩ takesFN (fun W pn xe tk own => (pss_one (ps_set (i := 2) sc_law_right.nd rfl (dk rfl) (pe_callS (ok_law_made_vx T) (hr.mono (by decide)) (by rfl) T.g_law_made T.F_law_made.kp (bn_law_made_vx T) (fun σ => L2N.passAt tk σ) (pa_cons (pv 0) pa_nil))))) (fun a oe cls d pn hz hf => (pss_cons (ps_if (pt_cmpR (r := rEqNil K) (op_eqNil (Nat.lt_of_le_of_lt (Nat.le_add_right _ _) hr.units)) (pv 0) (pe_lst pa_nil) (nomark _)) (pss_one (ps_ret (pe_and (pe_cmpR op_isN' (pe_xf T.er_NoForm.xf (T.er_NoForm.no _ (by decide)) hz.zc hf (pv 3)) pe_non (nomark _)) (pe_one (pe_not (pe_callE (ok_law_other T hz.zc hf) (room_mark (hr.mono (by decide))) (p := (a, oe)) (hot_suite hz hf) List.mem_cons_self (by rfl) T.g_law_other T.F_law_other.kp (bn_law_other T) (pa_cons (pv 3) pa_nil))))))) pss_nil) (pss_one (ps_ret (pe_and (pe_callB (r := rIsi K) call_isi (by rfl) T.n_isinstance (by decide +kernel) (pa_cons (pe_xf T.er_NoForm.xf (T.er_NoForm.no _ (by decide)) hz.zc hf (pv 3)) (pa_cons (pe_bltn (v := V.ty "int") (by rfl) T.n_int (by decide +kernel) rfl) pa_nil))) (pe_and (pe_not (pe_callB (r := rIsi K) call_isi (by rfl) T.n_isinstance (by decide +kernel) (pa_cons (pe_xf T.er_NoForm.xf (T.er_NoForm.no _ (by decide)) hz.zc hf (pv 3)) (pa_cons (pe_bltn (v := V.ty "bool") (by rfl) T.n_bool (by decide +kernel) rfl) pa_nil)))) (pe_and (pe_cmpR (r := rEqD K) (op_eqD hr.units) (pe_xf T.er_NoForm.xf (T.er_NoForm.no _ (by decide)) hz.zc hf (pv 3)) (pv 1) (nomark _)) (pe_one (pe_not (pe_callE (ok_law_other T hz.zc hf) (room_mark (hr.mono (by decide))) (p := (a, oe)) (hot_suite hz hf) List.mem_cons_self (by rfl) T.g_law_other T.F_law_other.kp (bn_law_other T) (pa_cons (pv 3) pa_nil)))))))))))) (pss_cons (ps_set (i := 4) sc_law_right.nd rfl (dk rfl) (pe_meth0 (pv 2) T.c_Form T.me_Form_parts (ok_Form_parts T) (hr.mono (by decide)) (bn_Form_parts T) .nil pass0)) (pss_one (ps_ret (pe_and (pe_cmpR (r := rNeNil K) (op_neNil (Nat.lt_of_le_of_lt (Nat.le_add_right _ _) hr.units)) (pv 0) (pe_lst pa_nil) (nomark _)) (pe_and (pe_cmpR op_eqI (pv 1) (pe_un un_neg pe_int) (nomark _)) (pe_and (pe_callB (r := rIsi K) call_isi (by rfl) T.n_isinstance (by decide +kernel) (pa_cons (pv 4) (pa_cons (pe_bltn (v := V.ty "tuple") (by rfl) T.n_tuple (by decide +kernel) rfl) pa_nil))) (pe_and (pe_cmpR (r := rEqD K) (op_eqD hr.units) (pv 4) (pe_tupleOfK (K := K) rfl (by rfl) T.n_tuple (pv 0)) (nomark _)) (pe_one (pe_callB (r := rIsi K) call_isi (by rfl) T.n_isinstance (by decide +kernel) (pa_cons (pv 2) (pa_cons (pe_glob (v := V.ref (He.ga K "Pattern")) (by rfl) T.gx_Pattern rfl) pa_nil)))))))))))))), ?_⟩
    have S : Sx P0 F0 H0 F0 H0 := Sx.refl0 hE
    unfold m_law_right at hm
    obtain ⟨t1, e2, hm⟩ := bd_some hm
    refine rd_seq ?_
    refine rd_asg ?_
    refine rd_call ?_
    refine rd_cons ?_
    refine rd_v rfl ?_
    refine rd_nil ?_
    refine ⟨F0, _, _, t1, rfl, S.sub, f__law_parts, e2, fun v6 F3 H4 c5 f7 => ?_⟩
    have S8 := S.call0 c5
    have f__law_parts := (qL qTh).mono c5.le f__law_parts
    cases (show v6 = (V.int (t1)) from f7)
    obtain ⟨t9, e10, hm⟩ := bd_some hm
    refine rd_gn ?_
    refine rd_seq ?_
    refine rd_try ?_
    refine rd_asg ?_
    refine rd_callS ?_
    refine rd_cons ?_
    refine rd_v rfl ?_
    refine rd_nil ?_
    refine ⟨F3, _, _, t9, rfl, S8.sub, f__law_parts, e10, ?_, ?_⟩
    rotate_left
    · skip
      intro x18 cls19 d20 F21 H22 ee23 c24 ea25
      subst ee23
      have hm := exT_err hm
      obtain ⟨dd26, rfl, rfl, hx27⟩ := ea25
      refine rd_was T.xm_NoForm_NoForm (fun a28 na29 => ?_)
      have S30 := S8.call0 c24
      have f__law_parts := (qL qTh).mono c24.le f__law_parts
      refine rd_seq ?_
      refine rd_ifS ?_
      refine rd_test ?_
      refine rd_op ?_
      refine rd_v rfl ?_
      refine rd_lst ?_
      refine rd_nil ?_
      refine rd_lK rfl ?_
      refine alL (K := K) (A := qTh) (xs := ([] : List Th)) S30 .nil (fun v31 F32 H33 c34 f35 => ?_)
      have S36 := S30.call0 c34
      have f__law_parts := (qL qTh).mono c34.le f__law_parts
      have hx27 := c34.same _ _ hx27 (fun z => z)
      refine rd_eqNil (B := qTh) (S36.l f__law_parts).r (S36.l f35).r ?_
      refine rd_b ?_
      refine if_b hm (fun b37 hm => ?_) (fun b37 hm => ?_)
      · skip
        have f38 := ovI_r (K := K) (F := F32) x18
        obtain ⟨t47, e48, hm⟩ := bd_some hm
        refine rd_ret ?_
        refine rd_andV ?_
        refine rd_op ?_
        refine rd_xf ?_
        refine rd_v rfl ?_
        refine xf_at hx27 (by rfl) ?_
        refine rd_c ?_
        refine rd_isN (A := qI) f38 ?_
        refine rd_b ?_
        refine andV_j (fun c H' => c = V.bl t47 ∧ ∃ F', Sx P0 F32 H33 F' H') ?_ ?_ ?_
        · intro b49 Q50 q51
          have e48 := if_t e48 b49
          have S52 := Sx.refl0 S36.sub
          obtain ⟨t53, e54, e48⟩ := bd_some e48
          refine rd_notV ?_
          refine rd_callE ?_
          refine rd_cons ?_
          refine rd_v rfl ?_
          refine rd_nil ?_
          refine ⟨F32, dd26, _, t53, rfl, S52.sub, rfl, rfl, hx27, e54, fun v55 F56 H57 c58 f59 => ?_⟩
          have S60 := S52.call0 c58
          have f__law_parts := (qL qTh).mono c58.le f__law_parts
          have hx27 := c58.same _ _ hx27 (fun z => z)
          cases (show v55 = (V.bl (t53)) from f59)
          cases e48
          refine rd_b ?_
          exact q51 _ _ ⟨rfl, F56, S60⟩
        · intro b49
          have e48 := if_f e48 b49
          cases e48
          have S61 := Sx.refl0 S36.sub
          exact ⟨rfl, F32, S61⟩
        rintro b65 H63 ⟨rfl, F62, c64⟩
        have S66 := S36.call0 c64
        have f__law_parts := (qL qTh).mono c64.le f__law_parts
        cases hm
        exact hQ _ _ _ S66 rfl
      · skip
        have f67 := ovI_r (K := K) (F := F32) x18
        obtain ⟨t145, e146, hm⟩ := bd_some hm
        refine rd_next ?_
        refine rd_ret ?_
        refine rd_andV ?_
        refine rd_cb ?_
        refine rd_cons ?_
        refine rd_xf ?_
        refine rd_v rfl ?_
        refine xf_at hx27 (by rfl) ?_
        refine rd_cons ?_
        refine rd_c ?_
        refine rd_nil ?_
        refine rd_isiO (t := .type "int") (y := true) (z := false) f67 (fun a9 _ r9 => by have e9 : _ = V.int _ := r9; rw [e9]; exact tx_int) (by decide +kernel) (by decide +kernel) ?_
        refine rd_b ?_
        refine andV_j (fun c H' => c = V.bl t145 ∧ ∃ F', Sx P0 F32 H33 F' H') ?_ ?_ ?_
        · intro b147 Q148 q149
          have e146 := if_t e146 b147
          have S150 := Sx.refl0 S36.sub
          have f151 := ovI_r (K := K) (F := F32) x18
          obtain ⟨t184, e185, e146⟩ := bd_some e146
          refine rd_andV ?_
          refine rd_notV ?_
          refine rd_cb ?_
          refine rd_cons ?_
          refine rd_xf ?_
          refine rd_v rfl ?_
          refine xf_at hx27 (by rfl) ?_
          refine rd_cons ?_
          refine rd_c ?_
          refine rd_nil ?_
          refine rd_isiO (t := .type "int") (y := false) (z := false) f151 (fun a9 _ r9 => by have e9 : _ = V.int _ := r9; rw [e9]; exact tx_int) (by decide +kernel) (by decide +kernel) ?_
          refine rd_b ?_
          refine rd_b ?_
          refine andV_j (fun c H' => c = V.bl t184 ∧ ∃ F', Sx P0 F32 H33 F' H') ?_ ?_ ?_
          · intro b186 Q187 q188
            have e185 := if_t e185 b186
            have S189 := Sx.refl0 S150.sub
            have f190 := ovI_r (K := K) (F := F32) x18
            have f191 : (qO qI).r K F32 (V.int (t1)) (some t1) := (show (qO qI).r K F32 (V.int (t1)) (some t1) from rfl)
            obtain ⟨g192, e185⟩ := gd_some e185
            obtain ⟨g193, e185⟩ := gd_some e185
            obtain ⟨t202, e203, e185⟩ := bd_some e185
            refine rd_andV ?_
            refine rd_op ?_
            refine rd_xf ?_
            refine rd_v rfl ?_
            refine xf_at hx27 (by rfl) ?_
            refine rd_v rfl ?_
            refine rd_eqD (D := (dO dI)) (S189.d (dO dI) f190) (S189.d (dO dI) f191) g192 g193 ?_
            refine rd_b ?_
            refine andV_j (fun c H' => c = V.bl t202 ∧ ∃ F', Sx P0 F32 H33 F' H') ?_ ?_ ?_
            · intro b204 Q205 q206
              have e203 := if_t e203 b204
              have S207 := Sx.refl0 S189.sub
              obtain ⟨t208, e209, e203⟩ := bd_some e203
              refine rd_notV ?_
              refine rd_callE ?_
              refine rd_cons ?_
              refine rd_v rfl ?_
              refine rd_nil ?_
              refine ⟨F32, dd26, _, t208, rfl, S207.sub, rfl, rfl, hx27, e209, fun v210 F211 H212 c213 f214 => ?_⟩
              have S215 := S207.call0 c213
              have f__law_parts := (qL qTh).mono c213.le f__law_parts
              have hx27 := c213.same _ _ hx27 (fun z => z)
              cases (show v210 = (V.bl (t208)) from f214)
              cases e203
              refine rd_b ?_
              exact q206 _ _ ⟨rfl, F211, S215⟩
            · intro b204
              have e203 := if_f e203 b204
              cases e203
              have S216 := Sx.refl0 S189.sub
              exact ⟨rfl, F32, S216⟩
            rintro b220 H218 ⟨rfl, F217, c219⟩
            have S221 := S189.call0 c219
            have f__law_parts := (qL qTh).mono c219.le f__law_parts
            cases e185
            exact q188 _ _ ⟨rfl, F217, S221⟩
          · intro b186
            have e185 := if_f e185 b186
            cases e185
            have S222 := Sx.refl0 S150.sub
            exact ⟨rfl, F32, S222⟩
          rintro b226 H224 ⟨rfl, F223, c225⟩
          have S227 := S150.call0 c225
          have f__law_parts := (qL qTh).mono c225.le f__law_parts
          cases e146
          exact q149 _ _ ⟨rfl, F223, S227⟩
        · intro b147
          have e146 := if_f e146 b147
          cases e146
          have S228 := Sx.refl0 S36.sub
          exact ⟨rfl, F32, S228⟩
        rintro b232 H230 ⟨rfl, F229, c231⟩
        have S233 := S36.call0 c231
        have f__law_parts := (qL qTh).mono c231.le f__law_parts
        cases hm
        exact hQ _ _ _ S233 rfl
    intro t11 er17 v15 F12 H13 c14 f16
    subst er17
    have hm := exT_ok hm
    have S234 := S8.call0 c14
    have f__law_parts := (qL qTh).mono c14.le f__law_parts
    refine rd_gn ?_
    refine rd_seq ?_
    refine rd_asg ?_
    refine rd_meth ?_
    refine rd_v rfl ?_
    refine mt_Form_parts S234 f16 ?_
    obtain ⟨t235, e236, hm⟩ := bd_some hm
    refine rd_nil ?_
    refine ⟨F12, _, _, t235, rfl, S234.sub, f16, e236, fun v240 F237 H238 c239 f241 => ?_⟩
    have S242 := S234.call0 c239
    have f__law_parts := (qL qTh).mono c239.le f__law_parts
    have f16 := qForm.mono c239.le f16
    refine rd_gn ?_
    refine rd_ret ?_
    refine rd_andV ?_
    refine rd_op ?_
    refine rd_v rfl ?_
    refine rd_lst ?_
    refine rd_nil ?_
    refine rd_lK rfl ?_
    refine alL (K := K) (A := qTh) (xs := ([] : List Th)) S242 .nil (fun v243 F244 H245 c246 f247 => ?_)
    have S248 := S242.call0 c246
    have f__law_parts := (qL qTh).mono c246.le f__law_parts
    have f16 := qForm.mono c246.le f16
    have f241 := (qT qS).mono c246.le f241
    obtain ⟨t283, e284, hm⟩ := bd_some hm
    refine rd_neNil (B := qTh) (S248.l f__law_parts).r (S248.l f247).r ?_
    refine rd_b ?_
    refine andV_j (fun c H' => c = V.bl t283 ∧ ∃ F', Sx P0 F244 H245 F' H') ?_ ?_ ?_
    · intro b285 Q286 q287
      have e284 := if_t e284 b285
      have S288 := Sx.refl0 S248.sub
      obtain ⟨t300, e301, e284⟩ := bd_some e284
      refine rd_andV ?_
      refine rd_op ?_
      refine rd_v rfl ?_
      refine rd_un ?_
      refine rd_c ?_
      refine rd_U ?_
      refine rd_I0 ?_
      refine rd_b ?_
      refine andV_j (fun c H' => c = V.bl t300 ∧ ∃ F', Sx P0 F244 H245 F' H') ?_ ?_ ?_
      · intro b302 Q303 q304
        have e301 := if_t e301 b302
        have S305 := Sx.refl0 S288.sub
        refine rd_andV ?_
        refine rd_cb ?_
        refine rd_cons ?_
        refine rd_v rfl ?_
        refine rd_cons ?_
        refine rd_c ?_
        refine rd_nil ?_
        refine rd_isi (b := true) (tx_tup (S305.t f241)) (by decide +kernel) ?_
        refine rd_b ?_
        refine if_tt ?_
        refine rd_andV ?_
        refine rd_op ?_
        refine rd_v rfl ?_
        refine rd_thn ?_
        refine rd_v rfl ?_
        refine rd_tuple (S305.l f__law_parts).r ?_
        refine alT' S305 (fun v306 F307 H308 c309 f310 => ?_)
        have S311 := S305.call0 c309
        have f__law_parts := (qL qTh).mono c309.le f__law_parts
        have f16 := qForm.mono c309.le f16
        have f241 := (qT qS).mono c309.le f241
        obtain ⟨t312, e313, e301⟩ := bd_some e301
        have f314 : (qT qS).r K F307 v306 t312 := qT_thAll f310 e313
        obtain ⟨g315, e301⟩ := gd_some e301
        obtain ⟨g316, e301⟩ := gd_some e301
        cases e301
        refine rd_eqD (D := (dT dS)) (S311.d (dT dS) f241) (S311.d (dT dS) f314) g315 g316 ?_
        refine rd_b ?_
        refine andV_p (by intro _ Q' q; refine rd_cb ?_; refine rd_cons ?_; refine rd_v rfl ?_; refine rd_cons ?_; refine rd_c ?_; refine rd_nil ?_; refine rd_isForm T.fip T.c_Form S311 f16 ?_; exact q) ?_
        exact q304 _ _ ⟨rfl, F307, S311⟩
      · intro b302
        have e301 := if_f e301 b302
        cases e301
        have S317 := Sx.refl0 S288.sub
        exact ⟨rfl, F244, S317⟩
      rintro b321 H319 ⟨rfl, F318, c320⟩
      have S322 := S288.call0 c320
      have f__law_parts := (qL qTh).mono c320.le f__law_parts
      have f16 := qForm.mono c320.le f16
      have f241 := (qT qS).mono c320.le f241
      cases e284
      exact q287 _ _ ⟨rfl, F318, S322⟩
    · intro b285
      have e284 := if_f e284 b285
      cases e284
      have S323 := Sx.refl0 S248.sub
      exact ⟨rfl, F244, S323⟩
    rintro b327 H325 ⟨rfl, F324, c326⟩
    have S328 := S248.call0 c326
    have f__law_parts := (qL qTh).mono c326.le f__law_parts
    have f16 := qForm.mono c326.le f16
    have f241 := (qT qS).mono c326.le f241
    cases hm
    exact hQ _ _ _ S328 rfl
def sp_law_take (K : PySem.W.Frag) : Sp := fun vs H Q _ => ∃ (F : Hp) (p__law_pool_here : Addr) (a__law_pool_here : Int × Int) (a__law_many : Int) (r : (Int × (Int × Int))), vs = [.ref p__law_pool_here, (V.int (a__law_many))] ∧ Same F H ∧ Ow (fun a => a = p__law_pool_here) H F H p__law_pool_here (.lst [.int a__law_pool_here.1, .int a__law_pool_here.2]) ∧ m_law_take a__law_pool_here a__law_many = some r ∧ ∀ v F' H', Sx (fun a => a = p__law_pool_here) F H F' H' → Ow (fun a => a = p__law_pool_here) H F' H' p__law_pool_here (.lst [.int r.2.1, .int r.2.2]) → qI.r K F' v r.1 → Q v H'
theorem sc_law_take : FnScope ["_law_pool_here", "_law_many", "_law_digit"] ["_law_pool_here", "_law_many"] (defScope s_law_take) := ⟨rfl, rfl, rfl, by decide +kernel, rfl, by decide +kernel, by decide +kernel⟩
theorem bn_law_take (T : Tx P K mg) : Binds K (fdOf K ("_law_take", none)) ["_law_pool_here", "_law_many"] [] := FunD.bindsN T.F_law_take fun _ _ _ _ _ _ us hl => match us, hl with | [_, _], _ => rfl
theorem ok_law_take (T : Tx P K mg) : FnOk P w K mg base CX0 1 (He.ga K "_law_take") (fdOf K ("_law_take", none)) ["_law_pool_here", "_law_many"] (sp_law_take K) := by
  refine FunD.ok T.F_law_take sc_law_take (fun vs H0 Q E h => ?_) (fun cdv A outer s H0 vs Q E hr h => ?_)
  · obtain ⟨_, _, _, _, _, rfl, _⟩ := h
    rfl
  · obtain ⟨F0, p__law_pool_here, a__law_pool_here, a__law_many, r, rfl, hE, w__law_pool_here, hm, hQ⟩ := h
    refine ⟨_, PSs.nox ((pss_cons (ps_if (pt_cmpR op_gt (pe_ix (r := rIxL K) ix_list (pv 0) pe_int (fun _ _ => rfl)) pe_int (nomark _)) (pss_cons (ps_set (i := 2) sc_law_take.nd rfl (dk rfl) (pe_op op_mod (pe_callTy cr_int (by rfl) T.n_int (by decide +kernel) (pa_cons (pe_ix (r := rIxL K) ix_list (pv 0) pe_int (fun _ _ => rfl)) pa_nil)) (pv 1))) (pss_cons (ps_asg (pe_op op_fdiv (pe_ix (r := rIxL K) ix_list (pv 0) pe_int (fun _ _ => rfl)) (pv 1)) (pg_sub (pv 0) pe_int set_list)) (pss_one (ps_ret (pv 2))))) pss_nil) (pss_cons (ps_asg (pe_op op_mod (pe_callTy cr_int (by rfl) T.n_int (by decide +kernel) (pa_cons (pe_op op_add (pe_op op_mul (pe_ix (r := rIxL K) ix_list (pv 0) pe_int (fun _ _ => rfl)) pe_int) pe_int) pa_nil)) pe_int) (pg_sub (pv 0) pe_int set_list)) (pss_one (ps_ret (pe_op op_mod (pe_callTy cr_int (by rfl) T.n_int (by decide +kernel) (pa_cons (pe_op op_fdiv (pe_op op_mod (pe_callTy cr_int (by rfl) T.n_int (by decide +kernel) (pa_cons (pe_op op_mul (pe_ix (r := rIxL K) ix_list (pv 0) pe_int (fun _ _ => rfl)) (pe_ix (r := rIxL K) ix_list (pv 0) pe_int (fun _ _ => rfl))) pa_nil)) pe_int) pe_int) pa_nil)) (pv 1))))))), ?_⟩
    have S : Sx (fun a => a = p__law_pool_here) F0 H0 F0 H0 := Sx.refl hE (live1 w__law_pool_here)
    unfold m_law_take at hm
    refine rd_seq ?_
    refine rd_ifS ?_
    refine rd_test ?_
    refine rd_op ?_
    refine rd_op ?_
    refine rd_v rfl ?_
    refine rd_c ?_
    refine pool0 w__law_pool_here ?_
    refine rd_c ?_
    refine rd_I0 ?_
    refine rd_b ?_
    refine if_b hm (fun b1 hm => ?_) (fun b1 hm => ?_)
    · skip
      obtain ⟨g2, hm⟩ := gd_some hm
      obtain ⟨g3, hm⟩ := gd_some hm
      refine rd_seq ?_
      refine rd_asg ?_
      refine rd_op ?_
      refine rd_cb ?_
      refine rd_cons ?_
      refine rd_op ?_
      refine rd_v rfl ?_
      refine rd_c ?_
      refine pool0 w__law_pool_here ?_
      refine rd_nil ?_
      refine rd_intI ?_
      refine rd_v rfl ?_
      refine rd_I (modOk_of g2) ?_
      refine rd_gn ?_
      refine rd_seq ?_
      refine rd_asg ?_
      refine rd_op ?_
      refine rd_op ?_
      refine rd_v rfl ?_
      refine rd_c ?_
      refine pool0 w__law_pool_here ?_
      refine rd_v rfl ?_
      refine rd_I (divOk_of g3) ?_
      refine rd_gsub ?_
      refine rd_v rfl ?_
      refine rd_c ?_
      refine pset0 S w__law_pool_here (fun H4 c5 w6 => ?_)
      have S7 := S.call1 c5 w__law_pool_here
      cases hm
      refine rd_ret ?_
      refine rd_v rfl ?_
      exact hQ _ _ _ S7 w6 rfl
    · skip
      obtain ⟨g8, hm⟩ := gd_some hm
      obtain ⟨g9, hm⟩ := gd_some hm
      refine rd_next ?_
      refine rd_seq ?_
      refine rd_asg ?_
      refine rd_op ?_
      refine rd_cb ?_
      refine rd_cons ?_
      refine rd_op ?_
      refine rd_op ?_
      refine rd_op ?_
      refine rd_v rfl ?_
      refine rd_c ?_
      refine pool1 w__law_pool_here ?_
      refine rd_c ?_
      refine rd_I (mulOk_of g8) ?_
      refine rd_c ?_
      refine rd_I0 ?_
      refine rd_nil ?_
      refine rd_intI ?_
      refine rd_c ?_
      refine rd_I (modOk_of g9) ?_
      refine rd_gsub ?_
      refine rd_v rfl ?_
      refine rd_c ?_
      refine pset1 S w__law_pool_here (fun H10 c11 w12 => ?_)
      have S13 := S.call1 c11 w__law_pool_here
      obtain ⟨g14, hm⟩ := gd_some hm
      obtain ⟨g15, hm⟩ := gd_some hm
      obtain ⟨g16, hm⟩ := gd_some hm
      obtain ⟨g17, hm⟩ := gd_some hm
      cases hm
      refine rd_ret ?_
      refine rd_op ?_
      refine rd_cb ?_
      refine rd_cons ?_
      refine rd_op ?_
      refine rd_op ?_
      refine rd_cb ?_
      refine rd_cons ?_
      refine rd_op ?_
      refine rd_op ?_
      refine rd_v rfl ?_
      refine rd_c ?_
      refine pool1 w12 ?_
      refine rd_op ?_
      refine rd_v rfl ?_
      refine rd_c ?_
      refine pool1 w12 ?_
      refine rd_I (mulOk_of g14) ?_
      refine rd_nil ?_
      refine rd_intI ?_
      refine rd_c ?_
      refine rd_I (modOk_of g15) ?_
      refine rd_c ?_
      refine rd_I (divOk_of g16) ?_
      refine rd_nil ?_
      refine rd_intI ?_
      refine rd_v rfl ?_
      refine rd_I (modOk_of g17) ?_
      exact hQ _ _ _ S13 w12 rfl
def sp_law_good (K : PySem.W.Frag) : Sp := fun vs H Q _ => ∃ (F : Hp) (p__law_pool_here : Addr) (a__law_pool_here : Int × Int) (r : (Str × (Int × Int))), vs = [.ref p__law_pool_here] ∧ Same F H ∧ Ow (fun a => a = p__law_pool_here) H F H p__law_pool_here (.lst [.int a__law_pool_here.1, .int a__law_pool_here.2]) ∧ m_law_good a__law_pool_here = some r ∧ ∀ v F' H', Sx (fun a => a = p__law_pool_here) F H F' H' → Ow (fun a => a = p__law_pool_here) H F' H' p__law_pool_here (.lst [.int r.2.1, .int r.2.2]) → qS.r K F' v r.1 → Q v H'
theorem sc_law_good : FnScope ["_law_pool_here", "_law_text", "_law_k"] ["_law_pool_here"] (defScope s_law_good) := ⟨rfl, rfl, rfl, by decide +kernel, rfl, by decide +kernel, by decide +kernel⟩
theorem bn_law_good (T : Tx P K mg) : Binds K (fdOf K ("_law_good", none)) ["_law_pool_here"] [] := FunD.bindsN T.F_law_good fun _ _ _ _ _ _ us hl => match us, hl with | [_], _ => rfl
theorem ok_law_good (T : Tx P K mg) : FnOk P w K mg base CX0 2 (He.ga K "_law_good") (fdOf K ("_law_good", none)) ["_law_pool_here"] (sp_law_good K) := by
  refine FunD.ok T.F_law_good sc_law_good (fun vs H0 Q E h => ?_) (fun cdv A outer s H0 vs Q E hr h => ?_)
  · obtain ⟨_, _, _, _, rfl, _⟩ := h
    rfl
  · obtain ⟨F0, p__law_pool_here, a__law_pool_here, r, rfl, hE, w__law_pool_here, hm, hQ⟩ := h
    refine ⟨_, PSs.nox ((pss_cons (ps_set (i := 1) sc_law_good.nd rfl (dk rfl) pe_str) (pss_cons (ps_for PassesOwn.never rfl (pi_range1 (by rfl) T.n_range (pa_cons (pe_op op_add pe_int (pe_call (ok_law_take T) (hr.mono (by decide)) (by rfl) T.g_law_take T.F_law_take.kp (bn_law_take T) .nil pass0 (pa_cons (pv 0) (pa_cons pe_int pa_nil)))) pa_nil)) (pg_name (i := 2) sc_law_good.nd rfl (dk rfl)) (pss_one (ps_set (i := 1) sc_law_good.nd rfl (dk rfl) (pe_op op_catS (pv 1) (pe_ix ix_str (pe_call0 (ok_law_all_signs T) (hr.mono (by decide)) (by rfl) T.g_law_all_signs T.F_law_all_signs.kp (bn_law_all_signs T) .nil pass0) (pe_call (ok_law_take T) (hr.mono (by decide)) (by rfl) T.g_law_take T.F_law_take.kp (bn_law_take T) .nil pass0 (pa_cons (pv 0) (pa_cons pe_int pa_nil))) (fun _ _ => rfl)))))) (pss_one (ps_ret (pv 1)))))), ?_⟩
    have S : Sx (fun a => a = p__law_pool_here) F0 H0 F0 H0 := Sx.refl hE (live1 w__law_pool_here)
    unfold m_law_good at hm
    obtain ⟨t1, e2, hm⟩ := bd_some hm
    refine rd_seq ?_
    refine rd_asg ?_
    refine rd_c ?_
    refine rd_gn ?_
    refine rd_seq ?_
    refine rd_for ?_
    refine rd_iR1 ?_
    refine rd_cons ?_
    refine rd_op ?_
    refine rd_c ?_
    refine rd_call ?_
    refine rd_cons ?_
    refine rd_v rfl ?_
    refine rd_cons ?_
    refine rd_c ?_
    refine rd_nil ?_
    refine ⟨F0, _, _, _, t1, rfl, S.sub, w__law_pool_here.arg, e2, fun v6 F3 H4 c5 w8 f7 => ?_⟩
    have S9 := S.call1 c5 w__law_pool_here
    have w10 := w__law_pool_here.back w8
    cases (show v6 = (V.int (t1.1)) from f7)
    obtain ⟨g11, hm⟩ := gd_some hm
    refine rd_I0 ?_
    refine rd_nil ?_
    refine rd_r1 g11 ?_
    obtain ⟨t12, e13, hm⟩ := bd_some hm
    refine rd_forS feedsRg (typedR (K := K) (F := F3)) e13 (fun (s14 : ((Int × Int) × Str)) σ H => ∃ (F : Hp) (o2 : Option V), σ = [some (V.ref p__law_pool_here), some (V.str (s14.2)), o2] ∧ Sx (fun a => a = p__law_pool_here) F3 H4 F H ∧ Ow (fun a => a = p__law_pool_here) H4 F H p__law_pool_here (.lst [V.int s14.1.1, V.int s14.1.2])) ?_ ?_ ?_ ?_
    · intro _ _ _ _; trivial
    · skip
      have S16 : Sx (fun a => a = p__law_pool_here) _ _ _ _ := Sx.refl S9.sub (fun a z => by rw [z, w10.at_]; exact (fun h => nomatch h))
      have w17 : Ow (fun a => a = p__law_pool_here) H4 _ _ _ _ := ⟨w10.fr, w10.at_, .inr (rfl)⟩
      exact ⟨F3, _, rfl, S16, w17⟩
    · skip
      rintro x18 v19 s20 c24 σ21 H22 f23 ⟨F25, o27, rfl, S26, w28⟩ hm31
      unfold m_law_good_b1 at hm31
      cases (show v19 = (V.int (x18)) from f23)
      obtain ⟨t32, e33, hm31⟩ := bd_some hm31
      refine rd_gn ?_
      refine rd_asg ?_
      refine rd_op ?_
      refine rd_v rfl ?_
      refine rd_op ?_
      refine rd_call ?_
      refine rd_nil ?_
      refine ⟨F25, t32, rfl, S26.sub, e33, fun v37 F34 H35 c36 f38 => ?_⟩
      have S39 := S26.call0 c36
      have w28 := w28.call0 c36
      cases (show v37 = (V.str (t32)) from f38)
      obtain ⟨t40, e41, hm31⟩ := bd_some hm31
      refine rd_call ?_
      refine rd_cons ?_
      refine rd_v rfl ?_
      refine rd_cons ?_
      refine rd_c ?_
      refine rd_nil ?_
      refine ⟨F34, _, _, _, t40, rfl, S39.sub, w28.arg, e41, fun v45 F42 H43 c44 w47 f46 => ?_⟩
      have S48 := S39.call1 c44 w28
      have w49 := w28.back w47
      cases (show v45 = (V.int (t40.1)) from f46)
      obtain ⟨t50, e51, hm31⟩ := bd_some hm31
      obtain ⟨g52, hm31⟩ := gd_some hm31
      cases hm31
      refine rd_ixS e51 ?_
      refine rd_catS g52 ?_
      refine rd_gn ?_
      exact ⟨F42, _, rfl, S48, w49⟩
    · skip
      rintro σ53 H54 ⟨F55, o57, rfl, S56, w58⟩
      have S59 := S9.call1 S56 w10
      have w60 : Ow (fun a => a = p__law_pool_here) H0 _ _ _ _ := ⟨w58.fr, w58.at_, w10.mine⟩
      cases hm
      refine rd_ret ?_
      refine rd_v rfl ?_
      exact hQ _ _ _ S59 w60 rfl
def sp_law_bad (K : PySem.W.Frag) : Sp := fun vs H Q _ => ∃ (F : Hp) (p__law_pool_here : Addr) (a__law_pool_here : Int × Int) (r : (Th × (Int × Int))), vs = [.ref p__law_pool_here] ∧ Same F H ∧ Ow (fun a => a = p__law_pool_here) H F H p__law_pool_here (.lst [.int a__law_pool_here.1, .int a__law_pool_here.2]) ∧ m_law_bad a__law_pool_here = some r ∧ ∀ v F' H', Sx (fun a => a = p__law_pool_here) F H F' H' → Ow (fun a => a = p__law_pool_here) H F' H' p__law_pool_here (.lst [.int r.2.1, .int r.2.2]) → qTh.r K F' v r.1 → Q v H'
theorem sc_law_bad : FnScope ["_law_pool_here", "_law_some"] ["_law_pool_here"] (defScope s_law_bad) := ⟨rfl, rfl, rfl, by decide +kernel, rfl, by decide +kernel, by decide +kernel⟩
theorem bn_law_bad (T : Tx P K mg) : Binds K (fdOf K ("_law_bad", none)) ["_law_pool_here"] [] := FunD.bindsN T.F_law_bad fun _ _ _ _ _ _ us hl => match us, hl with | [_], _ => rfl
theorem ok_law_bad (T : Tx P K mg) : FnOk P w K mg base CX0 3 (He.ga K "_law_bad") (fdOf K ("_law_bad", none)) ["_law_pool_here"] (sp_law_bad K) := by
  refine FunD.ok T.F_law_bad sc_law_bad (fun vs H0 Q E h => ?_) (fun cdv A outer s H0 vs Q E hr h => ?_)
  · obtain ⟨_, _, _, _, rfl, _⟩ := h
    rfl
  · obtain ⟨F0, p__law_pool_here, a__law_pool_here, r, rfl, hE, w__law_pool_here, hm, hQ⟩ := h
    refine ⟨_, PSs.nox ((pss_cons (ps_set (i := 1) sc_law_bad.nd rfl (dk rfl) (pe_lst (pa_cons pe_str (pa_cons (pe_op op_repS (pe_ix ix_str (pe_call (ok_law_good T) (hr.mono (by decide)) (by rfl) T.g_law_good T.F_law_good.kp (bn_law_good T) .nil pass0 (pa_cons (pv 0) pa_nil)) pe_int (fun _ _ => rfl)) pe_int) (pa_cons (pe_op op_catS pe_str (pe_ix ix_str pe_str (pe_call (ok_law_take T) (hr.mono (by decide)) (by rfl) T.g_law_take T.F_law_take.kp (bn_law_take T) .nil pass0 (pa_cons (pv 0) (pa_cons pe_int pa_nil))) (fun _ _ => rfl))) (pa_cons pe_str (pa_cons pe_str (pa_cons pe_str (pa_cons pe_str pa_nil))))))))) (pss_cons (ps_set (i := 1) sc_law_bad.nd rfl (dk rfl) (pe_op op_cat (pv 1) (pe_lst (pa_cons pe_non (pa_cons pe_int (pa_cons pe_bl (pa_cons (pe_lst (pa_cons pe_str pa_nil)) pa_nil))))))) (pss_one (ps_ret (pe_ix (r := rIxL K) ix_list (pv 1) (pe_call (ok_law_take T) (hr.mono (by decide)) (by rfl) T.g_law_take T.F_law_take.kp (bn_law_take T) .nil pass0 (pa_cons (pv 0) (pa_cons pe_int pa_nil))) (fun _ _ => rfl))))))), ?_⟩
    have S : Sx (fun a => a = p__law_pool_here) F0 H0 F0 H0 := Sx.refl hE (live1 w__law_pool_here)
    unfold m_law_bad at hm
    obtain ⟨t1, e2, hm⟩ := bd_some hm
    refine rd_seq ?_
    refine rd_asg ?_
    refine rd_lst ?_
    refine rd_cons ?_
    refine rd_c ?_
    refine rd_cons ?_
    refine rd_op ?_
    refine rd_op ?_
    refine rd_call ?_
    refine rd_cons ?_
    refine rd_v rfl ?_
    refine rd_nil ?_
    refine ⟨F0, _, _, t1, rfl, S.sub, w__law_pool_here.arg, e2, fun v6 F3 H4 c5 w8 f7 => ?_⟩
    have S9 := S.call1 c5 w__law_pool_here
    have w10 := w__law_pool_here.back w8
    cases (show v6 = (V.str (t1.1)) from f7)
    obtain ⟨t11, e12, hm⟩ := bd_some hm
    obtain ⟨g13, hm⟩ := gd_some hm
    obtain ⟨t14, e15, hm⟩ := bd_some hm
    refine rd_c ?_
    refine rd_ixS e12 ?_
    refine rd_c ?_
    refine rd_repS g13 ?_
    refine rd_cons ?_
    refine rd_op ?_
    refine rd_c ?_
    refine rd_op ?_
    refine rd_c ?_
    refine rd_call ?_
    refine rd_cons ?_
    refine rd_v rfl ?_
    refine rd_cons ?_
    refine rd_c ?_
    refine rd_nil ?_
    refine ⟨F3, _, _, _, t14, rfl, S9.sub, w10.arg, e15, fun v19 F16 H17 c18 w21 f20 => ?_⟩
    have S22 := S9.call1 c18 w10
    have w23 := w10.back w21
    cases (show v19 = (V.int (t14.1)) from f20)
    obtain ⟨t24, e25, hm⟩ := bd_some hm
    obtain ⟨g26, hm⟩ := gd_some hm
    refine rd_ixS e25 ?_
    refine rd_catS g26 ?_
    refine rd_cons ?_
    refine rd_c ?_
    refine rd_cons ?_
    refine rd_c ?_
    refine rd_cons ?_
    refine rd_c ?_
    refine rd_cons ?_
    refine rd_c ?_
    refine rd_nil ?_
    refine rd_lK rfl ?_
    refine alL (K := K) (A := qTh) (xs := [(Th.d (PyData.str (("" : Str)))), (Th.d (PyData.str ((repS t11 5)))), (Th.d (PyData.str ((("a" : Str) ++ t24)))), (Th.d (PyData.str (("<Any>" : Str)))), (Th.d (PyData.str (("<digit>" : Str)))), (Th.d (PyData.str (("<word> " : Str)))), (Th.d (PyData.str (("<>" : Str))))]) S22 (.cons (show qTh.r K F16 _ (Th.d (PyData.str (("" : Str)))) from Dp.str _) (.cons (show qTh.r K F16 _ (Th.d (PyData.str ((repS t11 5)))) from Dp.str _) (.cons (show qTh.r K F16 _ (Th.d (PyData.str ((("a" : Str) ++ t24)))) from Dp.str _) (.cons (show qTh.r K F16 _ (Th.d (PyData.str (("<Any>" : Str)))) from Dp.str _) (.cons (show qTh.r K F16 _ (Th.d (PyData.str (("<digit>" : Str)))) from Dp.str _) (.cons (show qTh.r K F16 _ (Th.d (PyData.str (("<word> " : Str)))) from Dp.str _) (.cons (show qTh.r K F16 _ (Th.d (PyData.str (("<>" : Str)))) from Dp.str _) .nil))))))) (fun v27 F28 H29 c30 f31 => ?_)
    have S32 := S22.call0 c30
    have w23 := w23.call0 c30
    refine rd_gn ?_
    refine rd_seq ?_
    refine rd_asg ?_
    refine rd_op ?_
    refine rd_v rfl ?_
    refine rd_lst ?_
    refine rd_cons ?_
    refine rd_c ?_
    refine rd_cons ?_
    refine rd_c ?_
    refine rd_cons ?_
    refine rd_c ?_
    refine rd_cons ?_
    refine rd_lst ?_
    refine rd_cons ?_
    refine rd_c ?_
    refine rd_nil ?_
    refine rd_lK rfl ?_
    refine alL (K := K) (A := qS) (xs := [("a" : Str)]) S32 (.cons rfl .nil) (fun v33 F34 H35 c36 f37 => ?_)
    have S38 := S32.call0 c36
    have f31 := (qL qTh).mono c36.le f31
    have w23 := w23.call0 c36
    refine rd_nil ?_
    refine rd_lK rfl ?_
    refine alL (K := K) (A := qTh) (xs := [(Th.d (PyData.none)), (Th.d (PyData.int (5))), (Th.d (PyData.bool (true))), (Th.d ((dL dS).d [("a" : Str)]))]) S38 (.cons (show qTh.r K F34 _ (Th.d (PyData.none)) from Dp.non) (.cons (show qTh.r K F34 _ (Th.d (PyData.int (5))) from Dp.int _) (.cons (show qTh.r K F34 _ (Th.d (PyData.bool (true))) from Dp.bl _) (.cons (show qTh.r K F34 _ (Th.d ((dL dS).d [("a" : Str)])) from (dL dS).dp f37) .nil)))) (fun v39 F40 H41 c42 f43 => ?_)
    have S44 := S38.call0 c42
    have f31 := (qL qTh).mono c42.le f31
    have w23 := w23.call0 c42
    obtain ⟨g45, hm⟩ := gd_some hm
    refine rd_cat (S44.l f31) (S44.l f43) g45 ?_
    refine alL' S44 (fun v46 F47 H48 c49 f50 => ?_)
    have S51 := S44.call0 c49
    have f31 := (qL qTh).mono c49.le f31
    have w23 := w23.call0 c49
    obtain ⟨t52, e53, hm⟩ := bd_some hm
    refine rd_gn ?_
    refine rd_ret ?_
    refine rd_op ?_
    refine rd_v rfl ?_
    refine rd_call ?_
    refine rd_cons ?_
    refine rd_v rfl ?_
    refine rd_cons ?_
    refine rd_c ?_
    refine rd_nil ?_
    refine ⟨F47, _, _, _, t52, rfl, S51.sub, w23.arg, e53, fun v57 F54 H55 c56 w59 f58 => ?_⟩
    have S60 := S51.call1 c56 w23
    have f50 := (qL qTh).mono c56.le f50
    have w61 := w23.back w59
    cases (show v57 = (V.int (t52.1)) from f58)
    obtain ⟨t62, e63, hm⟩ := bd_some hm
    refine rd_ixL (S60.l f50).r e63 (fun u64 f65 => ?_)
    cases hm
    exact hQ _ _ _ S60 w61 f65
def sp_law_drawn (K : PySem.W.Frag) : Sp := fun vs H Q _ => ∃ (F : Hp) (p__law_pool_here : Addr) (a__law_pool_here : Int × Int) (r : ((List Th) × (Int × Int))), vs = [.ref p__law_pool_here] ∧ Same F H ∧ Ow (fun a => a = p__law_pool_here) H F H p__law_pool_here (.lst [.int a__law_pool_here.1, .int a__law_pool_here.2]) ∧ m_law_drawn a__law_pool_here = some r ∧ ∀ v F' H', Sx (fun a => a = p__law_pool_here) F H F' H' → Ow (fun a => a = p__law_pool_here) H F' H' p__law_pool_here (.lst [.int r.2.1, .int r.2.2]) → (qL qTh).r K F' v r.1 → Q v H'
theorem sc_law_drawn : FnScope ["_law_pool_here", "_law_parts", "_law_bad_here", "_law_k", "_law_kind"] ["_law_pool_here"] (defScope s_law_drawn) := ⟨rfl, rfl, rfl, by decide +kernel, rfl, by decide +kernel, by decide +kernel⟩
theorem bn_law_drawn (T : Tx P K mg) : Binds K (fdOf K ("_law_drawn", none)) ["_law_pool_here"] [] := FunD.bindsN T.F_law_drawn fun _ _ _ _ _ _ us hl => match us, hl with | [_], _ => rfl
theorem ok_law_drawn (T : Tx P K mg) : FnOk P w K mg base CX0 4 (He.ga K "_law_drawn") (fdOf K ("_law_drawn", none)) ["_law_pool_here"] (sp_law_drawn K) := by
  refine FunD.ok T.F_law_drawn sc_law_drawn (fun vs H0 Q E h => ?_) (fun cdv A outer s H0 vs Q E hr h => ?_)
  · obtain ⟨_, _, _, _, rfl, _⟩ := h
    rfl
  · obtain ⟨F0, p__law_pool_here, a__law_pool_here, r, rfl, hE, w__law_pool_here, hm, hQ⟩ := h
    refine ⟨_, PSs.nox ((pss_cons (ps_set (i := 1) sc_law_drawn.nd rfl (dk rfl) (pe_lst pa_nil)) (pss_cons (ps_set (i := 2) sc_law_drawn.nd rfl (dk rfl) (pe_cmpR op_eqI (pe_call (ok_law_take T) (hr.mono (by decide)) (by rfl) T.g_law_take T.F_law_take.kp (bn_law_take T) .nil pass0 (pa_cons (pv 0) (pa_cons pe_int pa_nil))) pe_int (nomark _))) (pss_cons (ps_for PassesOwn.never rfl (pi_range1 (by rfl) T.n_range (pa_cons (pe_call (ok_law_take T) (hr.mono (by decide)) (by rfl) T.g_law_take T.F_law_take.kp (bn_law_take T) .nil pass0 (pa_cons (pv 0) (pa_cons pe_int pa_nil))) pa_nil)) (pg_name (i := 3) sc_law_drawn.nd rfl (dk rfl)) (pss_cons (ps_set (i := 4) sc_law_drawn.nd rfl (dk rfl) (pe_call (ok_law_take T) (hr.mono (by decide)) (by rfl) T.g_law_take T.F_law_take.kp (bn_law_take T) .nil pass0 (pa_cons (pv 0) (pa_cons pe_int pa_nil)))) (pss_one (ps_if (PW.pt (pw_and (pt_val (pv 2)) (pw_and1 (pt_cmpR op_eqI (pe_call (ok_law_take T) (hr.mono (by decide)) (by rfl) T.g_law_take T.F_law_take.kp (bn_law_take T) .nil pass0 (pa_cons (pv 0) (pa_cons pe_int pa_nil))) pe_int (nomark _))))) (pss_one (ps_expr (pe_bmK (K := K) PySem.F.plainAttrs_list PySem.F.slot_list_append PySem.F.type_list_append mt_append (pv 1) (pa_cons (pe_call (ok_law_bad T) (hr.mono (by decide)) (by rfl) T.g_law_bad T.F_law_bad.kp (bn_law_bad T) .nil pass0 (pa_cons (pv 0) pa_nil)) pa_nil)))) (pss_one (ps_if (pt_cmpR op_lt (pv 4) pe_int (nomark _)) (pss_one (ps_expr (pe_bmK (K := K) PySem.F.plainAttrs_list PySem.F.slot_list_append PySem.F.type_list_append mt_append (pv 1) (pa_cons (pe_call (ok_law_good T) (hr.mono (by decide)) (by rfl) T.g_law_good T.F_law_good.kp (bn_law_good T) .nil pass0 (pa_cons (pv 0) pa_nil)) pa_nil)))) (pss_one (ps_expr (pe_bmK (K := K) PySem.F.plainAttrs_list PySem.F.slot_list_append PySem.F.type_list_append mt_append (pv 1) (pa_cons (pe_ix (r := rIxL K) ix_list (pe_lst (pa_cons pe_str (pa_cons pe_str (pa_cons pe_str pa_nil)))) (pe_op op_sub (pv 4) pe_int) (fun _ _ => rfl)) pa_nil)))))))))) (pss_one (ps_ret (pv 1))))))), ?_⟩
    have S : Sx (fun a => a = p__law_pool_here) F0 H0 F0 H0 := Sx.refl hE (live1 w__law_pool_here)
    unfold m_law_drawn at hm
    refine rd_seq ?_
    refine rd_asg ?_
    refine rd_lst ?_
    refine rd_nil ?_
    refine rd_lK rfl ?_
    refine al S (fun p1 H2 np3 c4 w5 => ?_)
    have r6 : Row qTh K F0 [] ([] : List Th) := .nil
    have ne7 : p__law_pool_here ≠ p1 := w__law_pool_here.ne np3
    have z8 := S.free0 np3
    have S9 := S.call0 c4
    have w__law_pool_here := w__law_pool_here.call0 c4
    obtain ⟨t10, e11, hm⟩ := bd_some hm
    refine rd_gn ?_
    refine rd_seq ?_
    refine rd_asg ?_
    refine rd_op ?_
    refine rd_call ?_
    refine rd_cons ?_
    refine rd_v rfl ?_
    refine rd_cons ?_
    refine rd_c ?_
    refine rd_nil ?_
    refine ⟨F0, _, _, _, t10, rfl, S9.sub, w__law_pool_here.arg, e11, fun v15 F12 H13 c14 w17 f16 => ?_⟩
    have S18 := S9.call1 c14 w__law_pool_here
    have r6 := Row.mono c14.le r6
    have w5 := w5.call c14 (by intro z; exact (Ne.symm ne7) z)
    have w19 := w__law_pool_here.back w17
    cases (show v15 = (V.int (t10.1)) from f16)
    obtain ⟨t20, e21, hm⟩ := bd_some hm
    refine rd_c ?_
    refine rd_I0 ?_
    refine rd_gn ?_
    refine rd_seq ?_
    refine rd_for ?_
    refine rd_iR1 ?_
    refine rd_cons ?_
    refine rd_call ?_
    refine rd_cons ?_
    refine rd_v rfl ?_
    refine rd_cons ?_
    refine rd_c ?_
    refine rd_nil ?_
    refine ⟨F12, _, _, _, t20, rfl, S18.sub, w19.arg, e21, fun v25 F22 H23 c24 w27 f26 => ?_⟩
    have S28 := S18.call1 c24 w19
    have r6 := Row.mono c24.le r6
    have w5 := w5.call c24 (by intro z; exact (Ne.symm ne7) z)
    have w29 := w19.back w27
    cases (show v25 = (V.int (t20.1)) from f26)
    obtain ⟨g30, hm⟩ := gd_some hm
    refine rd_nil ?_
    refine rd_r1 g30 ?_
    obtain ⟨t31, e32, hm⟩ := bd_some hm
    refine rd_forS feedsRg (typedR (K := K) (F := F22)) e32 (fun (s33 : ((Int × Int) × (List Th))) σ H => ∃ (F : Hp) (o3 : Option V) (o4 : Option V) (vs1 : List V), σ = [some (V.ref p__law_pool_here), some (V.ref p1), some (V.bl ((decide (t10.1 = 0)))), o3, o4] ∧ Sx (fun a => a = p__law_pool_here ∨ a = p1) F22 H23 F H ∧ Ow (fun a => a = p__law_pool_here ∨ a = p1) H23 F H p__law_pool_here (.lst [V.int s33.1.1, V.int s33.1.2]) ∧ Ow (fun a => a = p__law_pool_here ∨ a = p1) H23 F H p1 (.lst vs1) ∧ Row qTh K F vs1 s33.2) ?_ ?_ ?_ ?_
    · intro _ _ _ _; trivial
    · skip
      have S35 : Sx (fun a => a = p__law_pool_here ∨ a = p1) _ _ _ _ := Sx.refl S28.sub (by
          rintro a (rfl | rfl)
          · rw [w29.at_]; exact (fun h => nomatch h)
          · rw [w5.at_]; exact (fun h => nomatch h))
      have w36 : Ow (fun a => a = p__law_pool_here ∨ a = p1) H23 _ _ _ _ := ⟨w29.fr, w29.at_, .inr (Or.inl rfl)⟩
      have w37 : Ow (fun a => a = p__law_pool_here ∨ a = p1) H23 _ _ _ _ := ⟨w5.fr, w5.at_, .inr (Or.inr (rfl))⟩
      exact ⟨F22, _, _, _, rfl, S35, w36, w37, r6⟩
    · skip
      rintro x38 v39 s40 c44 σ41 H42 f43 ⟨F45, o47, o48, v49, rfl, S46, w50, w51, r52⟩ hm55
      unfold m_law_drawn_b1 at hm55
      cases (show v39 = (V.int (x38)) from f43)
      obtain ⟨t56, e57, hm55⟩ := bd_some hm55
      refine rd_gn ?_
      refine rd_seq ?_
      refine rd_asg ?_
      refine rd_call ?_
      refine rd_cons ?_
      refine rd_v rfl ?_
      refine rd_cons ?_
      refine rd_c ?_
      refine rd_nil ?_
      refine ⟨F45, _, _, _, t56, rfl, S46.sub, w50.arg, e57, fun v61 F58 H59 c60 w63 f62 => ?_⟩
      have S64 := S46.call1 c60 w50
      have r52 := Row.mono c60.le r52
      have w51 := w51.call c60 (by intro z; exact (Ne.symm ne7) z)
      have w65 := w50.back w63
      cases (show v61 = (V.int (t56.1)) from f62)
      obtain ⟨t76, e77, hm55⟩ := bd_some hm55
      refine rd_gn ?_
      refine rd_ifS ?_
      refine rd_and ?_
      refine rd_tB ?_
      refine rd_v rfl ?_
      refine rd_b ?_
      refine and_j (fun c H' => c = t76.1 ∧ ∃ F', Sx (fun a => a = p__law_pool_here) F58 H59 F' H' ∧ Ow (fun a => a = p__law_pool_here) H59 F' H' p__law_pool_here (.lst [V.int t76.2.1, V.int t76.2.2])) ?_ ?_ ?_
      · intro b78 Q79 q80
        have e77 := if_t e77 b78
        have S81 : Sx (fun a => a = p__law_pool_here) _ _ _ _ := Sx.refl S64.sub (fun a z => by rw [z, w65.at_]; exact (fun h => nomatch h))
        have w82 : Ow (fun a => a = p__law_pool_here) H59 _ _ _ _ := ⟨w65.fr, w65.at_, .inr (rfl)⟩
        obtain ⟨t83, e84, e77⟩ := bd_some e77
        refine rd_test ?_
        refine rd_op ?_
        refine rd_call ?_
        refine rd_cons ?_
        refine rd_v rfl ?_
        refine rd_cons ?_
        refine rd_c ?_
        refine rd_nil ?_
        refine ⟨F58, _, _, _, t83, rfl, S81.sub, w82.arg, e84, fun v88 F85 H86 c87 w90 f89 => ?_⟩
        have S91 := S81.call1 c87 w82
        have r52 := Row.mono c87.le r52
        have w51 := w51.call c87 (by intro z; exact (Ne.symm ne7) z)
        have w92 := w82.back w90
        cases (show v88 = (V.int (t83.1)) from f89)
        cases e77
        refine rd_c ?_
        refine rd_I0 ?_
        refine rd_b ?_
        exact q80 _ _ ⟨rfl, F85, S91, w92⟩
      · intro b78
        have e77 := if_f e77 b78
        cases e77
        have S93 : Sx (fun a => a = p__law_pool_here) _ _ _ _ := Sx.refl S64.sub (fun a z => by rw [z, w65.at_]; exact (fun h => nomatch h))
        have w94 : Ow (fun a => a = p__law_pool_here) H59 _ _ _ _ := ⟨w65.fr, w65.at_, .inr (rfl)⟩
        exact ⟨rfl, F58, S93, w94⟩
      rintro b98 H96 ⟨rfl, F95, c97, w99⟩
      have S100 := S64.call1 c97 w65
      have w101 : Ow (fun a => a = p__law_pool_here ∨ a = p1) H23 _ _ _ _ := ⟨w99.fr, w99.at_, w65.mine⟩
      have r52 := Row.mono c97.le r52
      have w51 := w51.call c97 (Ne.symm ne7)
      refine if_b hm55 (fun b102 hm55 => ?_) (fun b102 hm55 => ?_)
      · skip
        obtain ⟨t103, e104, hm55⟩ := bd_some hm55
        refine rd_drop ?_
        refine rd_bm ?_
        refine rd_v rfl ?_
        refine rd_ty w51.ty ?_
        refine rd_cons ?_
        refine rd_call ?_
        refine rd_cons ?_
        refine rd_v rfl ?_
        refine rd_nil ?_
        refine ⟨F95, _, _, t103, rfl, S100.sub, w101.arg, e104, fun v108 F105 H106 c107 w110 f109 => ?_⟩
        have S111 := S100.call1 c107 w101
        have r52 := Row.mono c107.le r52
        have w51 := w51.call c107 (by intro z; exact (Ne.symm ne7) z)
        have w112 := w101.back w110
        obtain ⟨g113, hm55⟩ := gd_some hm55
        refine rd_nil ?_
        refine ap S111 w51 r52 g113 (fun H114 c115 w116 => ?_)
        have r117 := r52.snoc (show qTh.r K F105 _ t103.1 from f109)
        have S118 := S111.call1 c115 w51
        have w112 := w112.call c115 (by intro z; exact ne7 z)
        have r117 := Row.mono c115.le r117
        cases hm55
        exact ⟨F105, _, _, _, rfl, S118, w112, w116, r117⟩
      · skip
        refine rd_ifS ?_
        refine rd_test ?_
        refine rd_op ?_
        refine rd_v rfl ?_
        refine rd_c ?_
        refine rd_I0 ?_
        refine rd_b ?_
        refine if_b hm55 (fun b119 hm55 => ?_) (fun b119 hm55 => ?_)
        · skip
          obtain ⟨t120, e121, hm55⟩ := bd_some hm55
          refine rd_drop ?_
          refine rd_bm ?_
          refine rd_v rfl ?_
          refine rd_ty w51.ty ?_
          refine rd_cons ?_
          refine rd_call ?_
          refine rd_cons ?_
          refine rd_v rfl ?_
          refine rd_nil ?_
          refine ⟨F95, _, _, t120, rfl, S100.sub, w101.arg, e121, fun v125 F122 H123 c124 w127 f126 => ?_⟩
          have S128 := S100.call1 c124 w101
          have r52 := Row.mono c124.le r52
          have w51 := w51.call c124 (by intro z; exact (Ne.symm ne7) z)
          have w129 := w101.back w127
          cases (show v125 = (V.str (t120.1)) from f126)
          have f130 : qTh.r K F122 (V.str (t120.1)) (Th.d (PyData.str (t120.1))) := (show qTh.r K F122 _ (Th.d (PyData.str (t120.1))) from Dp.str _)
          obtain ⟨g131, hm55⟩ := gd_some hm55
          refine rd_nil ?_
          refine ap S128 w51 r52 g131 (fun H132 c133 w134 => ?_)
          have r135 := r52.snoc (show qTh.r K F122 _ (Th.d (PyData.str (t120.1))) from f130)
          have S136 := S128.call1 c133 w51
          have w129 := w129.call c133 (by intro z; exact ne7 z)
          have r135 := Row.mono c133.le r135
          cases hm55
          exact ⟨F122, _, _, _, rfl, S136, w129, w134, r135⟩
        · skip
          refine rd_drop ?_
          refine rd_bm ?_
          refine rd_v rfl ?_
          refine rd_ty w51.ty ?_
          refine rd_cons ?_
          refine rd_op ?_
          refine rd_lst ?_
          refine rd_cons ?_
          refine rd_c ?_
          refine rd_cons ?_
          refine rd_c ?_
          refine rd_cons ?_
          refine rd_c ?_
          refine rd_nil ?_
          refine rd_lK rfl ?_
          refine alL (K := K) (A := qS) (xs := [("<digits>" : Str), ("<word>" : Str), ("<any>" : Str)]) S100 (.cons rfl (.cons rfl (.cons rfl .nil))) (fun v137 F138 H139 c140 f141 => ?_)
          have S142 := S100.call0 c140
          have w101 := w101.call0 c140
          have r52 := Row.mono c140.le r52
          have w51 := w51.call0 c140
          obtain ⟨t143, e144, hm55⟩ := bd_some hm55
          refine rd_op ?_
          refine rd_v rfl ?_
          refine rd_c ?_
          refine rd_I0 ?_
          refine rd_ixL (S142.l f141).r e144 (fun u145 f146 => ?_)
          cases (show u145 = (V.str (t143)) from f146)
          have f147 : qTh.r K F138 (V.str (t143)) (Th.d (PyData.str (t143))) := (show qTh.r K F138 _ (Th.d (PyData.str (t143))) from Dp.str _)
          obtain ⟨g148, hm55⟩ := gd_some hm55
          refine rd_nil ?_
          refine ap S142 w51 r52 g148 (fun H149 c150 w151 => ?_)
          have r152 := r52.snoc (show qTh.r K F138 _ (Th.d (PyData.str (t143))) from f147)
          have S153 := S142.call1 c150 w51
          have w101 := w101.call c150 (by intro z; exact ne7 z)
          have r152 := Row.mono c150.le r152
          cases hm55
          exact ⟨F138, _, _, _, rfl, S153, w101, w151, r152⟩
    · skip
      rintro σ154 H155 ⟨F156, o158, o159, v160, rfl, S157, w161, w162, r163⟩
      have S164 := S28.call S157 (by
          rintro a (rfl | rfl)
          · exact w29.mine.symm
          · exact w5.mine.symm)
      have w165 : Ow (fun a => a = p__law_pool_here) H0 _ _ _ _ := ⟨w161.fr, w161.at_, w29.mine⟩
      have w166 : Ow (fun a => a = p__law_pool_here) H0 _ _ _ _ := ⟨w162.fr, w162.at_, w5.mine⟩
      obtain ⟨F167, S168, le169, f170, _, eq171⟩ := fz S164 w166 z8 r163
      have w165 := w165.fzO ne7 eq171
      cases hm
      refine rd_ret ?_
      refine rd_v rfl ?_
      exact hQ _ _ _ S168 w165 f170
def sp_law_pool (K : PySem.W.Frag) : Sp := fun vs H Q _ => ∃ (F : Hp) (v__law_script : V) (a__law_script : List Int) (a__law_k : Int) (r : (Int × Int)), vs = [v__law_script, (V.int (a__law_k))] ∧ Same F H ∧ qC.r K F v__law_script a__law_script ∧ m_law_pool a__law_script a__law_k = some r ∧ ∀ p F' H', H p = none → Sx P0 F H F' H' → Ow (fun a => a = p) H F' H' p (.lst [.int r.1, .int r.2]) → Q (.ref p) H'
theorem sc_law_pool : FnScope ["_law_script", "_law_k", "_law_cell", "_law_seed"] ["_law_script", "_law_k"] (defScope s_law_pool) := ⟨rfl, rfl, rfl, by decide +kernel, rfl, by decide +kernel, by decide +kernel⟩
theorem bn_law_pool (T : Tx P K mg) : Binds K (fdOf K ("_law_pool", none)) ["_law_script", "_law_k"] [] := FunD.bindsN T.F_law_pool fun _ _ _ _ _ _ us hl => match us, hl with | [_, _], _ => rfl
theorem ok_law_pool (T : Tx P K mg) : FnOk P w K mg base CX0 1 (He.ga K "_law_pool") (fdOf K ("_law_pool", none)) ["_law_script", "_law_k"] (sp_law_pool K) := by
  refine FunD.ok T.F_law_pool sc_law_pool (fun vs H0 Q E h => ?_) (fun cdv A outer s H0 vs Q E hr h => ?_)
  · obtain ⟨_, _, _, _, _, rfl, _⟩ := h
    rfl
  · obtain ⟨F0, v__law_script, a__law_script, a__law_k, r, rfl, hE, f__law_script, hm, hQ⟩ := h
    refine ⟨_, PSs.nox ((pss_cons (ps_set (i := 2) sc_law_pool.nd rfl (dk rfl) pe_int) (C8.pss_cut (ps_if (pt_cmpR (r := rNeD K) (op_neD hr.units) (pv 0) (pe_lst pa_nil) (nomark _)) (pss_one (ps_set (i := 2) sc_law_pool.nd rfl (dk rfl) (pe_ix (r := rIxL K) ix_list (pv 0) (pe_op op_mod (pe_callTy cr_int (by rfl) T.n_int (by decide +kernel) (pa_cons (pv 1) pa_nil)) (pe_callB (r := rLenQ K) cr_lenQ (by rfl) T.n_len (by decide +kernel) (pa_cons (pv 0) pa_nil))) (fun _ _ => rfl)))) pss_nil) (pss_cons (ps_set (i := 3) sc_law_pool.nd rfl (dk rfl) (pe_op op_mod (pe_op op_mul (pe_callTy cr_int (by rfl) T.n_int (by decide +kernel) (pa_cons (pe_op op_add (pe_op op_add (pe_op op_mod (pe_callTy cr_int (by rfl) T.n_int (by decide +kernel) (pa_cons (pv 2) pa_nil)) pe_int) (pe_op op_mul pe_int (pv 1))) pe_int) pa_nil)) pe_int) pe_int)) (pss_one (ps_ret (pe_lst (pa_cons (pe_op op_mul (pv 2) (pe_callTy cr_int (by rfl) T.n_int (by decide +kernel) (pa_cons (pe_cmpR op_ge (pv 2) (pe_op op_pow pe_int pe_int) (nomark _)) pa_nil))) (pa_cons (pv 3) pa_nil))))))))), ?_⟩
    have S : Sx P0 F0 H0 F0 H0 := Sx.refl0 hE
    unfold m_law_pool at hm
    obtain ⟨t1, e2, hm⟩ := bd_some hm
    refine rd_seq ?_
    refine rd_asg ?_
    refine rd_c ?_
    refine rd_gn ?_
    refine rd_cut (fun σ' H' => ∃ (F : Hp) (o3 : Option V), σ' = [some v__law_script, some (V.int (a__law_k)), some (V.int (t1)), o3] ∧ Sx P0 F0 H0 F H') ?_ ?_
    · skip
      have S3 := Sx.refl0 S.sub
      refine rd_ifS ?_
      refine rd_test ?_
      refine rd_op ?_
      refine rd_v rfl ?_
      refine rd_lst ?_
      refine rd_nil ?_
      refine rd_lK rfl ?_
      refine alL (K := K) (A := qI) (xs := ([] : List Int)) S3 .nil (fun v4 F5 H6 c7 f8 => ?_)
      have S9 := S3.call0 c7
      have f__law_script := qC.mono c7.le f__law_script
      obtain ⟨g10, e2⟩ := gd_some e2
      obtain ⟨g11, e2⟩ := gd_some e2
      refine rd_neD (D := (dL dI)) (S9.cd f__law_script) (S9.d (dL dI) f8) g10 g11 ?_
      refine rd_b ?_
      refine if_b e2 (fun b12 e2 => ?_) (fun b12 e2 => ?_)
      · skip
        obtain ⟨g13, e2⟩ := gd_some e2
        obtain ⟨t14, e15, e2⟩ := bd_some e2
        refine rd_asg ?_
        refine rd_op ?_
        refine rd_v rfl ?_
        refine rd_op ?_
        refine rd_cb ?_
        refine rd_cons ?_
        refine rd_v rfl ?_
        refine rd_nil ?_
        refine rd_intI ?_
        refine rd_cb ?_
        refine rd_cons ?_
        refine rd_v rfl ?_
        refine rd_nil ?_
        refine rd_lenQ (S9.c f__law_script).q ?_
        refine rd_I (modOk_of g13) ?_
        refine rd_ixL (S9.c f__law_script) e15 (fun u16 f17 => ?_)
        cases (show u16 = (V.int (t14)) from f17)
        cases e2
        refine rd_gn ?_
        exact ⟨F5, _, rfl, S9⟩
      · skip
        cases e2
        refine rd_next ?_
        exact ⟨F5, _, rfl, S9⟩
    · skip
      rintro σ19 H18 ⟨F20, o22, rfl, S21⟩
      have S23 := S.call0 S21
      have f__law_script := qC.mono S21.le f__law_script
      obtain ⟨g24, hm⟩ := gd_some hm
      obtain ⟨g25, hm⟩ := gd_some hm
      obtain ⟨g26, hm⟩ := gd_some hm
      obtain ⟨g27, hm⟩ := gd_some hm
      obtain ⟨g28, hm⟩ := gd_some hm
      obtain ⟨g29, hm⟩ := gd_some hm
      refine rd_seq ?_
      refine rd_asg ?_
      refine rd_op ?_
      refine rd_op ?_
      refine rd_cb ?_
      refine rd_cons ?_
      refine rd_op ?_
      refine rd_op ?_
      refine rd_op ?_
      refine rd_cb ?_
      refine rd_cons ?_
      refine rd_v rfl ?_
      refine rd_nil ?_
      refine rd_intI ?_
      refine rd_c ?_
      refine rd_I (modOk_of g24) ?_
      refine rd_op ?_
      refine rd_c ?_
      refine rd_v rfl ?_
      refine rd_I (mulOk_of g25) ?_
      refine rd_I0 ?_
      refine rd_c ?_
      refine rd_I0 ?_
      refine rd_nil ?_
      refine rd_intI ?_
      refine rd_c ?_
      refine rd_I (mulOk_of g26) ?_
      refine rd_c ?_
      refine rd_I (modOk_of g27) ?_
      refine rd_gn ?_
      refine rd_ret ?_
      refine rd_lst ?_
      refine rd_cons ?_
      refine rd_op ?_
      refine rd_v rfl ?_
      refine rd_cb ?_
      refine rd_cons ?_
      refine rd_op ?_
      refine rd_v rfl ?_
      refine rd_op ?_
      refine rd_c ?_
      refine rd_c ?_
      refine rd_I (powOk_of g28) ?_
      refine rd_I0 ?_
      refine rd_nil ?_
      refine rd_intB ?_
      refine rd_I (mulOk_of g29) ?_
      refine rd_cons ?_
      refine rd_v rfl ?_
      refine rd_nil ?_
      refine rd_lK rfl ?_
      refine al S23 (fun p30 H31 np32 c33 w34 => ?_)
      have z35 := S23.free0 np32
      have S36 := S23.call0 c33
      have f__law_script := qC.mono c33.le f__law_script
      cases hm
      exact hQ _ _ _ z35 S36 ⟨w34.fr, w34.at_, .inr rfl⟩
def sp_law (K : PySem.W.Frag) : Sp := fun vs H Q _ => ∃ (F : Hp) (v__law_script : V) (a__law_script : List Int) (r : Bool), vs = [v__law_script] ∧ Same F H ∧ qC.r K F v__law_script a__law_script ∧ m_law a__law_script = some r ∧ ∀ v F' H', Sx P0 F H F' H' → qB.r K F' v r → Q v H'
theorem sc_law : FnScope ["_law_script", "_law_k"] ["_law_script"] (defScope s_law) := ⟨rfl, rfl, rfl, by decide +kernel, rfl, by decide +kernel, by decide +kernel⟩
theorem bn_law (T : Tx P K mg) : Binds K (fdOf K ("law", none)) ["_law_script"] [] := FunD.bindsN T.F_law fun _ _ _ _ _ _ us hl => match us, hl with | [_], _ => rfl
theorem ok_law (T : Tx P K mg) : FnOk P w K mg base CX0 7 (He.ga K "law") (fdOf K ("law", none)) ["_law_script"] (sp_law K) := by
  refine FunD.ok T.F_law sc_law (fun vs H0 Q E h => ?_) (fun cdv A outer s H0 vs Q E hr h => ?_)
  · obtain ⟨_, _, _, _, rfl, _⟩ := h
    rfl
  · obtain ⟨F0, v__law_script, a__law_script, r, rfl, hE, f__law_script, hm, hQ⟩ := h
    refine ⟨_, PSs.nox ((pss_cons (ps_if (PW.pt (pw_or (pt_cmpR (r := rNeD K) (op_neD hr.units) (pe_lst (pa_cons (pe_cvalK (pe_glob (v := V.ref (He.ga K "Form")) (by rfl) T.gc_Form rfl)) (pa_cons (pe_cvalK (pe_glob (v := V.ref (He.ga K "Form")) (by rfl) T.gc_Form rfl)) (pa_cons (pe_cvalK (pe_glob (v := V.ref (He.ga K "Form")) (by rfl) T.gc_Form rfl)) pa_nil)))) (pe_lst (pa_cons pe_str (pa_cons pe_str (pa_cons pe_str pa_nil)))) (nomark _)) (pw_or1 (pt_not (pt_val (pe_call (ok_law_right T) (hr.mono (by decide)) (by rfl) T.g_law_right T.F_law_right.kp (bn_law_right T) .nil pass0 (pa_cons (pe_lst pa_nil) pa_nil))))))) (pss_one (ps_ret pe_bl)) pss_nil) (pss_cons (ps_for PassesOwn.never rfl (pi_range1 (by rfl) T.n_range (pa_cons (pe_callB (cr_max2 rfl) (by rfl) T.n_max (by decide +kernel) (pa_cons pe_int (pa_cons (pe_callB (cr_min2 rfl) (by rfl) T.n_min (by decide +kernel) (pa_cons pe_int (pa_cons (pe_callB (r := rLenQ K) cr_lenQ (by rfl) T.n_len (by decide +kernel) (pa_cons (pv 0) pa_nil)) pa_nil))) pa_nil))) pa_nil)) (pg_name (i := 1) sc_law.nd rfl (dk rfl)) (pss_one (ps_if (pt_not (pt_val (pe_call (ok_law_right T) (hr.mono (by decide)) (by rfl) T.g_law_right T.F_law_right.kp (bn_law_right T) .nil pass0 (pa_cons (pe_call (ok_law_drawn T) (hr.mono (by decide)) (by rfl) T.g_law_drawn T.F_law_drawn.kp (bn_law_drawn T) .nil pass0 (pa_cons (pe_call (ok_law_pool T) (hr.mono (by decide)) (by rfl) T.g_law_pool T.F_law_pool.kp (bn_law_pool T) .nil pass0 (pa_cons (pv 0) (pa_cons (pv 1) pa_nil))) pa_nil)) pa_nil)))) (pss_one (ps_ret pe_bl)) pss_nil))) (pss_one (ps_ret pe_bl))))), ?_⟩
    have S : Sx P0 F0 H0 F0 H0 := Sx.refl0 hE
    unfold m_law at hm
    refine rd_seq ?_
    refine rd_ifS ?_
    refine rd_or ?_
    refine rd_test ?_
    refine rd_op ?_
    refine rd_lst ?_
    refine rd_cons ?_
    refine rd_cvalC T.cv_Form_DIGITS ?_
    refine rd_cons ?_
    refine rd_cvalC T.cv_Form_WORD ?_
    refine rd_cons ?_
    refine rd_cvalC T.cv_Form_ANY ?_
    refine rd_nil ?_
    refine rd_lK rfl ?_
    refine alL (K := K) (A := qS) (xs := [("<digits>" : Str), ("<word>" : Str), ("<any>" : Str)]) S (.cons rfl (.cons rfl (.cons rfl .nil))) (fun v1 F2 H3 c4 f5 => ?_)
    have S6 := S.call0 c4
    have f__law_script := qC.mono c4.le f__law_script
    refine rd_lst ?_
    refine rd_cons ?_
    refine rd_c ?_
    refine rd_cons ?_
    refine rd_c ?_
    refine rd_cons ?_
    refine rd_c ?_
    refine rd_nil ?_
    refine rd_lK rfl ?_
    refine alL (K := K) (A := qS) (xs := [("<digits>" : Str), ("<word>" : Str), ("<any>" : Str)]) S6 (.cons rfl (.cons rfl (.cons rfl .nil))) (fun v7 F8 H9 c10 f11 => ?_)
    have S12 := S6.call0 c10
    have f__law_script := qC.mono c10.le f__law_script
    have f5 := (qL qS).mono c10.le f5
    obtain ⟨g13, hm⟩ := gd_some hm
    obtain ⟨g14, hm⟩ := gd_some hm
    obtain ⟨t29, e30, hm⟩ := bd_some hm
    refine rd_neDo (D := (dL dS)) (S12.d (dL dS) f5) (S12.d (dL dS) f11) g13 g14 ?_
    refine rd_b ?_
    refine or_j (fun c H' => c = t29 ∧ ∃ F', Sx P0 F8 H9 F' H') ?_ ?_ ?_
    · intro b31 Q32 q33
      have e30 := if_f e30 b31
      have S34 := Sx.refl0 S12.sub
      refine rd_not ?_
      refine rd_tB ?_
      refine rd_call ?_
      refine rd_cons ?_
      refine rd_lst ?_
      refine rd_nil ?_
      refine rd_lK rfl ?_
      refine alL (K := K) (A := qTh) (xs := ([] : List Th)) S34 .nil (fun v35 F36 H37 c38 f39 => ?_)
      have S40 := S34.call0 c38
      have f__law_script := qC.mono c38.le f__law_script
      obtain ⟨t41, e42, e30⟩ := bd_some e30
      refine rd_nil ?_
      refine ⟨F36, _, _, t41, rfl, S40.sub, f39, e42, fun v46 F43 H44 c45 f47 => ?_⟩
      have S48 := S40.call0 c45
      have f__law_script := qC.mono c45.le f__law_script
      cases (show v46 = (V.bl (t41)) from f47)
      cases e30
      refine rd_b ?_
      exact q33 _ _ ⟨rfl, F43, S48⟩
    · intro b31
      have e30 := if_t e30 b31
      cases e30
      have S49 := Sx.refl0 S12.sub
      exact ⟨rfl, F8, S49⟩
    rintro b53 H51 ⟨rfl, F50, c52⟩
    have S54 := S12.call0 c52
    have f__law_script := qC.mono c52.le f__law_script
    refine if_b hm (fun b55 hm => ?_) (fun b55 hm => ?_)
    · skip
      cases hm
      refine rd_ret ?_
      refine rd_c ?_
      exact hQ _ _ _ S54 rfl
    · skip
      obtain ⟨g56, hm⟩ := gd_some hm
      refine rd_next ?_
      refine rd_seq ?_
      refine rd_for ?_
      refine rd_iR1 ?_
      refine rd_cons ?_
      refine rd_cb ?_
      refine rd_cons ?_
      refine rd_c ?_
      refine rd_cons ?_
      refine rd_cb ?_
      refine rd_cons ?_
      refine rd_c ?_
      refine rd_cons ?_
      refine rd_cb ?_
      refine rd_cons ?_
      refine rd_v rfl ?_
      refine rd_nil ?_
      refine rd_lenQ (S54.c f__law_script).q ?_
      refine rd_nil ?_
      refine rd_min2 ?_
      refine rd_nil ?_
      refine rd_max2 ?_
      refine rd_nil ?_
      refine rd_r1 g56 ?_
      obtain ⟨t57, e58, hm⟩ := bd_some hm
      refine rd_forC feedsRg (typedR (K := K) (F := F50)) e58 (fun (s59 : Unit) σ H => ∃ (F : Hp) (o1 : Option V), σ = [some v__law_script, o1] ∧ Sx P0 F50 H51 F H) ?_ ?_ ?_ ?_
      · intro _ _ _ _; trivial
      · skip
        have S61 := Sx.refl0 S54.sub
        exact ⟨F50, _, rfl, S61⟩
      · skip
        rintro x62 v63 s64 c68 σ65 H66 f67 ⟨F69, o71, rfl, S70⟩ hm74 hbk72 hrt73
        have f__law_script := qC.mono S70.le f__law_script
        unfold m_law_b1 at hm74
        cases (show v63 = (V.int (x62)) from f67)
        obtain ⟨t75, e76, hm74⟩ := bd_some hm74
        refine rd_gn ?_
        refine rd_ifS ?_
        refine rd_not ?_
        refine rd_tB ?_
        refine rd_call ?_
        refine rd_cons ?_
        refine rd_call ?_
        refine rd_cons ?_
        refine rd_call ?_
        refine rd_cons ?_
        refine rd_v rfl ?_
        refine rd_cons ?_
        refine rd_v rfl ?_
        refine rd_nil ?_
        refine ⟨F69, _, _, _, t75, rfl, S70.sub, f__law_script, e76, fun p80 F77 H78 np81 c79 w82 => ?_⟩
        have z83 := S70.free0 np81
        have S84 := S70.call0 c79
        have f__law_script := qC.mono c79.le f__law_script
        have w85 : Ow P0 H51 _ _ _ _ := ⟨w82.fr, w82.at_, .inl z83⟩
        obtain ⟨t86, e87, hm74⟩ := bd_some hm74
        refine rd_nil ?_
        refine ⟨F77, _, _, t86, rfl, S84.sub, w85.arg, e87, fun v91 F88 H89 c90 w93 f92 => ?_⟩
        have S94 := S84.call1 c90 w85
        have f__law_script := qC.mono c90.le f__law_script
        have w95 := w85.back w93
        obtain ⟨t96, e97, hm74⟩ := bd_some hm74
        refine rd_nil ?_
        refine ⟨F88, _, _, t96, rfl, S94.sub, f92, e97, fun v101 F98 H99 c100 f102 => ?_⟩
        have S103 := S94.call0 c100
        have f__law_script := qC.mono c100.le f__law_script
        have w95 := w95.call0 c100
        cases (show v101 = (V.bl (t96)) from f102)
        refine rd_b ?_
        refine if_b hm74 (fun b104 hm74 => ?_) (fun b104 hm74 => ?_)
        · skip
          cases hm74
          have e105 := hrt73 _ rfl
          subst e105
          have hm := aft_rt hm
          have S106 := S54.call0 S103
          cases hm
          refine rd_ret ?_
          refine rd_c ?_
          exact hQ _ _ _ S106 rfl
        · skip
          cases hm74
          refine rd_next ?_
          exact ⟨_, rfl, ⟨F98, _, rfl, S103⟩⟩
      · skip
        rintro s109 σ107 H108 e110 ⟨F111, o113, rfl, S112⟩
        subst e110
        have hm := aft_nx hm
        have S114 := S54.call0 S112
        have f__law_script := qC.mono S112.le f__law_script
        cases hm
        refine rd_ret ?_
        refine rd_c ?_
        exact hQ _ _ _ S114 rfl
end

/-! ### the drawn numbers -/
theorem take_ok {p : Int × Int} {n : Int} (h : 0 < n) (h2 : n < 16000000) : Ok (m_law_take p n) fun r => 0 ≤ r.1 ∧ r.1 < n := by
  unfold m_law_take
  have hm : modOk n = true := modOk_ok h
  have hz : n ≠ 0 := by omega
  refine Ok.ite (fun _ => ?_) fun _ => ?_
  · exact Ok.gd hm (Ok.gd (divOk_ok h (by omega)) (Ok.sm ⟨Int.emod_nonneg _ hz, Int.emod_lt_of_pos _ h⟩))
  · have b1 : 0 ≤ (p.2 * 48271 + 11) % 2147483647 := Int.emod_nonneg _ (by decide)
    have b2 : (p.2 * 48271 + 11) % 2147483647 < 2147483647 := Int.emod_lt_of_pos _ (by decide)
    refine Ok.gd (mulOk_r (by decide) (by decide)) (Ok.gd (by decide) (Ok.gd (mulOk_l ?_ ?_) (Ok.gd (by decide) (Ok.gd (by decide) (Ok.gd hm (Ok.sm ⟨Int.emod_nonneg _ hz, Int.emod_lt_of_pos _ h⟩))))))
    · show -(2 ^ 64) < (p.2 * 48271 + 11) % 2147483647
      omega
    · show (p.2 * 48271 + 11) % 2147483647 < 2 ^ 64
      omega
theorem pool_ok {ns : List Int} {k : Int} (h0 : 0 ≤ k) (h1 : k < 1000) : Ok (m_law_pool ns k) fun _ => True := by
  unfold m_law_pool
  refine Ok.bd (P := fun _ => True) (Ok.gd (shp_lI _) (Ok.gd (shp_lI _) (Ok.ite (fun e => ?_) fun _ => Ok.sm trivial))) fun t _ => ?_
  · have hn : ns ≠ [] := by simpa using e
    have hl : (0 : Int) < (ns.length : Int) := by
      cases ns with
      | nil => exact absurd rfl hn
      | cons x xs => show (0 : Int) < ((xs.length + 1 : Nat) : Int); omega
    refine Ok.gd (modOk_ok hl) ?_
    have b1 : 0 ≤ k % (ns.length : Int) := Int.emod_nonneg _ (by omega)
    have b2 : k % (ns.length : Int) < ns.length := Int.emod_lt_of_pos _ hl
    have hlt : (k % (ns.length : Int)).toNat < ns.length := by omega
    exact Ok.bde (a := ns[(k % (ns.length : Int)).toNat]) (by rw [atI_nn b1 b2]; simp [hlt]) (Ok.sm trivial)
  · have b1 : 0 ≤ t % 2147483629 := Int.emod_nonneg _ (by decide)
    have b2 : t % 2147483629 < 2147483629 := Int.emod_lt_of_pos _ (by decide)
    refine Ok.gd (by decide) (Ok.gd (mulOk_l (by decide) (by decide)) (Ok.gd (mulOk_r (by decide) (by decide)) (Ok.gd (by decide) (Ok.gd (by decide) (Ok.gd (mulOk_r ?_ ?_) (Ok.sm trivial))))))
    · unfold b2I; split <;> decide
    · unfold b2I; split <;> decide

/-! ### texts of the 68 signs -/
abbrev SG : Str := " #-.0123456789:>ABCDEFGHIJKLMNOPQRSTUVWXYZabcdefghijklmnopqrstuvwxyz"
def gs (s : Str) : Prop := ∀ c ∈ cl s, c ∈ cl SG
abbrev DG : Str := "<digits>"
abbrev WD : Str := "<word>"
abbrev AN : Str := "<any>"
/-- a part as a form has it -/
def part (s : Str) : Prop := s = AN ∨ s = DG ∨ s = WD ∨ (gs s ∧ 1 ≤ s.length ∧ s.length ≤ 4)
def isL (z : Str) : Bool := !decide (z = "") && (sgns z).all fun x => inS x SG
theorem line_loop : ∀ xs : List Str, loopC m_is_line_b1 xs () = some (if (xs.all fun x => inS x SG) = true then .nx () else .rt false)
  | [] => rfl
  | x :: xs => by
    show ((m_is_line_b1 x ()).bind _) = _
    unfold m_is_line_b1
    rw [List.all_cons]
    cases h : inS x SG with
    | false => rfl
    | true =>
      show loopC m_is_line_b1 xs () = _
      rw [line_loop xs]; rfl
theorem is_line_str (z : Str) : m_is_line (Th.d (PyData.str z)) = some (isL z) := by
  unfold m_is_line isL
  show ((if decide (z = "") = true then some false else ((loopC m_is_line_b1 (sgns z) ()).bind fun t23 => aft t23 fun s46 => some true))) = _
  rw [line_loop]
  by_cases h : z = ""
  · rw [if_pos (decide_eq_true h), decide_eq_true h]; rfl
  · rw [if_neg (by rw [decide_eq_false h]; decide), decide_eq_false h]
    cases (sgns z).all fun x => inS x SG <;> rfl
theorem bs {α β : Type} (a : α) (f : α → Option β) : (some a).bind f = f a := rfl
/-! ### k02: forms made or refused -/
def dth (s : Str) : Th := Th.d (PyData.str s)
def lowS (s : Str) : Prop := ∀ c ∈ cl s, c < 0x110000
theorem lowS_ok {s : Str} (h : lowS s) : okS s := by
  show (s.cps.all (· < 0x110000)) = true
  rw [Array.all_eq_true_iff_forall_mem]
  intro c hc
  exact decide_eq_true (h c (Array.mem_toList_iff.mpr hc))
abbrev FRS : List Str := ["<digits>", "<word>", "<any>"]
def frS (s : Str) : Bool := decide (s ∈ FRS)
def fxS (s : Str) : Bool := isL s && decide (s.length ≤ 4)
def DT (t : Th) : Prop := (∃ s, t = dth s ∧ lowS s ∧ s.length ≤ 100) ∨ (thIs "str" t = false ∧ thS t = none)
def okT (ps : List Str) (t : Th) : Bool := match thS t with
  | none => false
  | some s => decide (ps.length < 4) && (if s = "<any>" then !decide (("<any>" : Str) ∈ ps) else if frS s = true then true else ((ps.getLast?).elim true frS) && fxS s)
def Gd2 (s : Str) : Prop := lowS s ∧ s.length ≤ 100 ∧ (frS s = true ∨ fxS s = true)
theorem this_str (s : Str) : thIs "str" (dth s) = true := by
  show isK "str" "str" = true
  decide
theorem fixed_comp {p : Str → Bool} {f : Str → Unit → Option (Option Str × Unit)} : ∀ {xs : List Str}, (∀ x ∈ xs, f x () = some (if p x = true then some x else none, ())) → comp f xs () = some (xs.filter p, ())
  | [], _ => rfl
  | x :: xs, h => by
    show Option.bind (f x ()) _ = _
    rw [h x List.mem_cons_self, bs, fixed_comp fun y hy => h y (List.mem_cons_of_mem _ hy), bs]
    cases e : p x with
    | true => rw [List.filter_cons_of_pos e]; rfl
    | false => rw [List.filter_cons_of_neg (by rw [e]; decide)]; rfl
theorem fixed_eq {s : Str} (h : lowS s) (hl : s.length ≤ 100) : m_law_is_fixed (dth s) = some (!frS s && fxS s) := by
  unfold m_law_is_fixed
  refine Ok.eq (Ok.bde (a := frS s) (by rw [this_str, if_neg (by decide)]; rfl) (Ok.ite (fun q => Ok.sm (by rw [q]; rfl)) fun q => ?_))
  refine Ok.bde (a := s) rfl (Ok.gd (fitsS_ok (by omega)) ?_)
  have len : ((sgns s).length : Nat) = s.length := by unfold sgns; rw [List.length_map]; exact Array.length_toList
  have mem : ∀ x ∈ sgns s, ∃ c, c ∈ cl s ∧ x = ⟨#[c]⟩ := fun x hx => by
    unfold sgns at hx
    obtain ⟨c, hc, rfl⟩ := List.mem_map.mp hx
    exact ⟨c, hc, rfl⟩
  refine Ok.bde (a := fxS s) ?_ (Ok.sm (by rw [q]; rfl))
  by_cases hb : 1 ≤ (s.length : Int) ∧ (s.length : Int) ≤ 4
  · rw [if_pos (by rw [decide_eq_true hb.1, decide_eq_true hb.2]; rfl), gd_true (fitsE_ok (by omega)), fixed_comp (p := fun x => !inS x SG) fun x hx => ?_, bs, gd_true, gd_true]
    · congr 1
      unfold fxS isL
      have hne : s ≠ "" := fun z => by
        rw [z] at hb
        have : ("" : Str).length = 0 := by decide +kernel
        omega
      rw [decide_eq_false hne, decide_eq_true (show s.length ≤ 4 by omega), Bool.and_true, Bool.not_false, Bool.true_and, Bool.eq_iff_iff, decide_eq_true_eq, List.filter_eq_nil_iff, List.all_eq_true]
      exact ⟨fun z x hx => by have := z x hx; simpa using this, fun z x hx => by rw [z x hx]; decide⟩
    · rfl
    · refine shpD fun x hx => ?_
      obtain ⟨c, hc, rfl⟩ := mem x (List.mem_filter.mp hx).1
      refine lowS_ok fun d hd => ?_
      rw [cl_sg, List.mem_singleton] at hd
      rw [hd]; exact h c hc
    · unfold m_law_is_fixed_b3 m_law_all_signs
      rw [bs]
      split <;> rfl
  · rw [if_neg (fun z => hb (by rw [Bool.and_eq_true] at z; exact ⟨of_decide_eq_true z.1, of_decide_eq_true z.2⟩))]
    congr 1
    unfold fxS isL
    rcases Nat.eq_zero_or_pos s.length with z | z
    · have e : s = "" := cl_inj (by
        have e : (cl s).length = 0 := by rw [← cl_len]; exact z
        rw [List.length_eq_zero_iff.mp e]; decide +kernel)
      rw [decide_eq_true e]; rfl
    · rw [decide_eq_false (show ¬ s.length ≤ 4 by omega), Bool.and_false]
theorem fixed_no {t : Th} (h : thIs "str" t = false) : m_law_is_fixed t = some false := by
  unfold m_law_is_fixed
  rw [h, if_pos (show (!false) = true from rfl), bs, if_pos rfl]
theorem thAll_map : ∀ ps : List Str, thAll (ps.map dth) = some ps
  | [] => rfl
  | p :: ps => by
    show (thS (dth p)).bind _ = _
    show Option.bind (some p) _ = _
    rw [bs, thAll_map ps, bs]
section
variable {ps : List Str} {t : Th} {r : List Th}
theorem at_t : atI (ps.map dth ++ t :: r) (ps.length : Int) = some t := by
  rw [atI_nn (by omega) (by rw [List.length_append, List.length_map, List.length_cons]; omega), Int.toNat_natCast, List.getElem?_append_right (by rw [List.length_map]; exact Nat.le_refl _), List.length_map, Nat.sub_self]; rfl
theorem at_q {q : Str} : atI ((ps ++ [q]).map dth ++ t :: r) (((ps ++ [q]).length : Int) - 1) = some (dth q) := by
  rw [List.length_append, List.length_singleton, show (((ps.length + 1 : Nat)) : Int) - 1 = (ps.length : Int) by omega, List.map_append, List.append_assoc]
  exact at_t (t := dth q) (r := t :: r)
theorem cut_ps : cut (ps.map dth ++ t :: r) none (some (ps.length : Int)) = ps.map dth := by
  rw [cut_to _ (by omega), Int.toNat_natCast]
  exact List.take_left' (by rw [List.length_map])
theorem snoc_of (h : 0 < ps.length) : ∃ qs q, ps = qs ++ [q] := by
  rcases List.eq_nil_or_concat ps with rfl | ⟨qs, q, rfl⟩
  · cases h
  · exact ⟨qs, q, List.concat_eq_append⟩
theorem any_fr : frS "<any>" = true := by decide +kernel
theorem allowed_eq (hg : ∀ p ∈ ps, Gd2 p) (ht : DT t) : m_is_allowed (ps.map dth ++ t :: r) (ps.length : Int) = some (okT ps t) := by
  unfold m_is_allowed
  rw [at_t, bs]
  rcases ht with ⟨s, rfl, hs, hl⟩ | ⟨h1, h2⟩
  rotate_left
  · rw [h1, if_pos (by rw [Bool.not_false, Bool.or_true])]
    unfold okT
    rw [h2]
  rw [this_str]
  have eT : okT ps (dth s) = (decide (ps.length < 4) && (if s = "<any>" then !decide (("<any>" : Str) ∈ ps) else if frS s = true then true else ((ps.getLast?).elim true frS) && fxS s)) := rfl
  rw [eT]
  by_cases h4 : (4 : Int) ≤ (ps.length : Int)
  · rw [if_pos (by rw [decide_eq_true h4]; rfl), decide_eq_false (show ¬ ps.length < 4 by omega)]; rfl
  rw [if_neg (by rw [decide_eq_false h4]; decide), decide_eq_true (show ps.length < 4 by omega), Bool.true_and]
  show Option.bind (some s) _ = _
  rw [bs]
  by_cases ha : s = "<any>"
  · rw [if_pos (decide_eq_true ha), if_pos ha, cut_ps, thAll_map, bs]
  rw [if_neg (fun q => ha (of_decide_eq_true q)), if_neg ha]
  by_cases hf : frS s = true
  · rw [if_pos (c := decide (s ∈ FRS) = true) hf, if_pos hf]
  rw [if_neg (c := decide (s ∈ FRS) = true) hf, if_neg hf]
  have tail : ∀ b : Bool, Option.bind (some (!b)) (fun t29 => if t29 = true then some false else ((m_is_line (Th.d (PyData.str s))).bind fun t51 => (if t51 = true then (gd (fitsS s) <| some (decide (((s).length : Int) ≤ 4))) else some false).bind fun t60 => some t60)) = some (b && fxS s) := fun b => by
    rw [bs]
    cases b with
    | false => rfl
    | true =>
      rw [if_neg (by decide), is_line_str, bs]
      unfold fxS
      cases e : isL s with
      | false => rfl
      | true =>
        rw [if_pos rfl, gd_true (fitsS_ok (by omega)), bs]
        show some (decide ((s.length : Int) ≤ 4)) = some (true && (true && decide (s.length ≤ 4)))
        congr 1
        rw [Bool.true_and, Bool.true_and, decide_eq_decide]
        omega
  rcases Nat.eq_zero_or_pos ps.length with z | z
  · have e : ps = [] := List.length_eq_zero_iff.mp z
    subst e
    exact tail true
  · obtain ⟨qs, q, rfl⟩ := snoc_of z
    rw [if_pos (decide_eq_true (by omega)), at_q, bs]
    have e : ((qs ++ [q]).getLast?).elim true frS = frS q := by rw [List.getLast?_concat]; rfl
    rw [e]
    exact tail (frS q)
theorem bad_eq (hg : ∀ p ∈ ps, Gd2 p) (ht : DT t) : m_law_first_bad_b1 (ps.map dth ++ t :: r) (ps.length : Int) () = some (if okT ps t = true then .nx () else .rt (ps.length : Int)) := by
  unfold m_law_first_bad_b1
  rw [at_t, bs]
  rcases ht with ⟨s, rfl, hs, hl⟩ | ⟨h1, h2⟩
  rotate_left
  · have eT : okT ps t = false := by unfold okT; rw [h2]
    rw [eT, if_neg (show ¬ false = true by decide), h1, if_neg (show ¬ false = true by decide), bs]
    by_cases h3 : (3 : Int) < (ps.length : Int)
    · rw [if_pos (decide_eq_true h3), bs, if_pos rfl]
    · rw [if_neg (fun q => h3 (of_decide_eq_true q)), fixed_no h1, bs]
      rfl
  have eT : okT ps (dth s) = (decide (ps.length < 4) && (if s = "<any>" then !decide (("<any>" : Str) ∈ ps) else if frS s = true then true else ((ps.getLast?).elim true frS) && fxS s)) := rfl
  have e1 : (if thIs "str" (dth s) = true then ((thS (dth s)).bind fun t47 => some (decide (t47 ∈ FRS))) else some false) = some (frS s) := by rw [this_str, if_pos rfl]; rfl
  have e1' := e1
  rw [e1', bs, eT]
  by_cases h3 : (3 : Int) < (ps.length : Int)
  · rw [if_pos (decide_eq_true h3), bs, if_pos rfl, decide_eq_false (show ¬ ps.length < 4 by omega)]; rfl
  rw [if_neg (fun q => h3 (of_decide_eq_true q)), decide_eq_true (show ps.length < 4 by omega), Bool.true_and]
  have thE : thS (dth s) = some s := rfl
  cases hf : frS s with
  | true =>
    rw [if_neg (by decide), bs, bs, if_neg (by decide), if_neg (by decide), bs, if_neg (by decide), thE, bs]
    by_cases ha : s = "<any>"
    · rw [if_pos (decide_eq_true ha), if_pos ha, cut_ps, thAll_map, bs, bs, bs]
      by_cases hm : ("<any>" : Str) ∈ ps
      · rw [decide_eq_true hm]; rfl
      · rw [decide_eq_false hm]; rfl
    · rw [if_neg (fun q => ha (of_decide_eq_true q)), if_neg ha, bs, bs]; rfl
  | false =>
    have ha : ¬ s = "<any>" := fun z => by rw [z, any_fr] at hf; cases hf
    rw [if_neg ha, if_neg (show ¬ false = true by decide), if_pos (by decide), fixed_eq hs hl, bs, bs, bs, hf]
    cases hx : fxS s with
    | false =>
      refine (if_pos (show (!false) = true from rfl)).trans ?_
      rw [Bool.and_false]; rfl
    | true =>
      rw [if_neg (by decide), if_pos (by decide)]
      rcases Nat.eq_zero_or_pos ps.length with z | z
      · have e : ps = [] := List.length_eq_zero_iff.mp z
        subst e
        rw [if_neg (by decide), bs, bs, if_neg (by decide), thE, bs, if_neg (fun q => ha (of_decide_eq_true q)), bs, bs]; rfl
      · obtain ⟨qs, q, rfl⟩ := snoc_of z
        obtain ⟨g1, g2, g3⟩ := hg q (List.mem_append_right _ (List.mem_singleton.mpr rfl))
        have e : ((qs ++ [q]).getLast?).elim true frS = frS q := by rw [List.getLast?_concat]; rfl
        rw [if_pos (decide_eq_true (by omega)), at_q, bs, fixed_eq g1 g2, bs, bs, bs, e]
        cases hq : frS q with
        | true => rw [Bool.not_true, Bool.false_and, if_neg (by decide), thE, bs, if_neg (fun q => ha (of_decide_eq_true q)), bs, bs]; rfl
        | false =>
          have : fxS q = true := g3.resolve_left (by rw [hq]; decide)
          rw [this]; rfl
end
/-- the first part that is not allowed, behind those that are -/
def fb : List Str → List Th → Option Nat
  | _, [] => none
  | ps, t :: r => if okT ps t = true then fb (ps ++ [(thS t).getD ""]) r else some ps.length
theorem okT_text {ps : List Str} {t : Th} (ht : DT t) (h : okT ps t = true) : ∃ s, t = dth s ∧ Gd2 s := by
  rcases ht with ⟨s, rfl, hs, hl⟩ | ⟨h1, h2⟩
  · refine ⟨s, rfl, hs, hl, ?_⟩
    have h : (decide (ps.length < 4) && (if s = "<any>" then !decide (("<any>" : Str) ∈ ps) else if frS s = true then true else ((ps.getLast?).elim true frS) && fxS s)) = true := h
    rw [Bool.and_eq_true] at h
    obtain ⟨_, h⟩ := h
    by_cases ha : s = "<any>"
    · exact .inl (by rw [ha]; exact any_fr)
    · rw [if_neg ha] at h
      by_cases hf : frS s = true
      · exact .inl hf
      · rw [if_neg hf, Bool.and_eq_true] at h
        exact .inr h.2
  · unfold okT at h
    rw [h2] at h; cases h
theorem rng_c2 {a b : Nat} (h : a < b) : rng (a : Int) (b : Int) = (a : Int) :: rng ((a + 1 : Nat) : Int) (b : Int) := by
  unfold rng
  have e1 : ((b : Int) - (a : Int)).toNat = ((b : Int) - ((a + 1 : Nat) : Int)).toNat + 1 := by omega
  rw [e1, List.range_succ_eq_map, List.map_cons, List.map_map, show (a : Int) + ((0 : Nat) : Int) = a by omega]
  congr 1
  refine List.map_congr_left fun i _ => ?_
  show (a : Int) + ((i + 1 : Nat) : Int) = ((a + 1 : Nat) : Int) + (i : Int)
  omega
theorem rng_e2 (a : Nat) : rng (a : Int) (a : Int) = [] := List.eq_nil_of_length_eq_zero (by rw [rng_len]; omega)
theorem bad_loop : ∀ (r : List Th) (ps : List Str), (∀ p ∈ ps, Gd2 p) → (∀ t ∈ r, DT t) → loopC (m_law_first_bad_b1 (ps.map dth ++ r)) (rng (ps.length : Int) ((ps.length + r.length : Nat) : Int)) () = some (match fb ps r with | none => .nx () | some j => .rt (j : Int))
  | [], ps, _, _ => by rw [List.length_nil, Nat.add_zero, rng_e2]; rfl
  | t :: r, ps, hg, ht => by
    rw [List.length_cons, rng_c2 (by omega)]
    show (m_law_first_bad_b1 (ps.map dth ++ t :: r) (ps.length : Int) ()).bind _ = _
    rw [bad_eq hg (ht t List.mem_cons_self), bs]
    show _ = some (match (if okT ps t = true then fb (ps ++ [(thS t).getD ""]) r else some ps.length) with | none => (Ctl.nx () : Ctl Unit Int) | some j => Ctl.rt (j : Int))
    by_cases h : okT ps t = true
    · rw [if_pos h, if_pos h]
      obtain ⟨s, rfl, gs⟩ := okT_text (ht t List.mem_cons_self) h
      have ih := bad_loop r (ps ++ [s]) (fun p hp => (List.mem_append.mp hp).elim (hg p) fun q => by rw [List.mem_singleton.mp q]; exact gs) fun x hx => ht x (List.mem_cons_of_mem _ hx)
      rw [List.map_append, List.append_assoc, List.length_append, List.length_singleton, show ps.length + 1 + r.length = ps.length + (r.length + 1) by omega] at ih
      exact ih
    · rw [if_neg h, if_neg h]
theorem init_loop : ∀ (r : List Th) (ps : List Str), (∀ p ∈ ps, Gd2 p) → (∀ t ∈ r, DT t) → loopC (m_Form___init___vx_b1 (ps.map dth ++ r)) (rng (ps.length : Int) ((ps.length + r.length : Nat) : Int)) () = some (match fb ps r with | none => .nx () | some j => .rt (.error (some (j : Int))))
  | [], ps, _, _ => by rw [List.length_nil, Nat.add_zero, rng_e2]; rfl
  | t :: r, ps, hg, ht => by
    rw [List.length_cons, rng_c2 (by omega)]
    show (m_Form___init___vx_b1 (ps.map dth ++ t :: r) (ps.length : Int) ()).bind _ = _
    unfold m_Form___init___vx_b1
    rw [allowed_eq hg (ht t List.mem_cons_self), bs]
    show _ = some (match (if okT ps t = true then fb (ps ++ [(thS t).getD ""]) r else some ps.length) with | none => (Ctl.nx () : Ctl Unit (Except (Option Int) (List Str))) | some j => Ctl.rt (.error (some (j : Int))))
    by_cases h : okT ps t = true
    · rw [h, if_neg (by decide), bs, if_pos rfl]
      obtain ⟨s, rfl, gs⟩ := okT_text (ht t List.mem_cons_self) h
      have ih := init_loop r (ps ++ [s]) (fun p hp => (List.mem_append.mp hp).elim (hg p) fun q => by rw [List.mem_singleton.mp q]; exact gs) fun x hx => ht x (List.mem_cons_of_mem _ hx)
      rw [List.map_append, List.append_assoc, List.length_append, List.length_singleton, show ps.length + 1 + r.length = ps.length + (r.length + 1) by omega] at ih
      unfold m_Form___init___vx_b1 at ih
      exact ih
    · have h' : okT ps t = false := by simpa using h
      rw [h', if_pos (by decide), bs, if_neg (by decide)]
theorem fb_none : ∀ (r : List Th) (ps : List Str), (∀ p ∈ ps, Gd2 p) → (∀ t ∈ r, DT t) → fb ps r = none → ∃ qs : List Str, r = qs.map dth ∧ ∀ q ∈ qs, Gd2 q
  | [], ps, _, _, _ => ⟨[], rfl, fun q hq => absurd hq List.not_mem_nil⟩
  | t :: r, ps, hg, ht, h => by
    have h : (if okT ps t = true then fb (ps ++ [(thS t).getD ""]) r else some ps.length) = none := h
    by_cases k : okT ps t = true
    · rw [if_pos k] at h
      obtain ⟨s, rfl, gs⟩ := okT_text (ht t List.mem_cons_self) k
      obtain ⟨qs, rfl, hq⟩ := fb_none r (ps ++ [s]) (fun p hp => (List.mem_append.mp hp).elim (hg p) fun q => by rw [List.mem_singleton.mp q]; exact gs) (fun x hx => ht x (List.mem_cons_of_mem _ hx)) h
      exact ⟨s :: qs, rfl, fun q hq' => by
        rcases List.mem_cons.mp hq' with z | z
        · rw [z]; exact gs
        · exact hq q z⟩
    · rw [if_neg k] at h; cases h
theorem init2_eq {r : List Th} (h1 : 1 ≤ r.length) (h5 : r.length ≤ 5) (ht : ∀ t ∈ r, DT t) : m_Form___init___vx r = some (match fb [] r with | none => .ok ((thAll r).getD []) | some j => .error (some (j : Int))) := by
  unfold m_Form___init___vx
  rw [if_neg (fun q => by have := of_decide_eq_true q; omega), gd_true (rgOk_ok (by omega) (by omega) (by omega) (by omega))]
  have := init_loop r [] (fun p hp => absurd hp List.not_mem_nil) ht
  rw [List.length_nil, Nat.zero_add] at this
  rw [show ((0 : Int)) = ((0 : Nat) : Int) from rfl]
  have e : (List.map dth [] ++ r) = r := rfl
  rw [e] at this
  rw [this, bs]
  cases hb : fb [] r with
  | none =>
    obtain ⟨qs, rfl, _⟩ := fb_none r [] (fun p hp => absurd hp List.not_mem_nil) ht hb
    show Option.bind (thAll (qs.map dth)) _ = _
    rw [thAll_map, bs]; rfl
  | some j => rfl
theorem made_eq {r : List Th} (h5 : r.length ≤ 5) : m_law_made_vx r = m_Form___init___vx r := by
  have fin : ∀ x : Option (Except (Option Int) (List Str)), (x.bind fun t8 => exB t8 fun t10 => some (.ok t10)) = x := fun x => by
    cases x with
    | none => rfl
    | some e => cases e <;> rfl
  unfold m_law_made_vx
  rcases r with _ | ⟨a, _ | ⟨b, _ | ⟨c, _ | ⟨d, _ | ⟨e, _ | ⟨f, r⟩⟩⟩⟩⟩⟩
  · rw [if_pos (show (([] : List Th).isEmpty) = true from rfl)]; exact fin _
  · rw [if_neg (show ¬ (([a] : List Th).isEmpty) = true by rintro ⟨⟩), if_pos (show decide ((([a] : List Th).length : Int) = 1) = true from rfl), show atI ([a] : List Th) 0 = some a from rfl, bs]; exact fin _
  · rw [if_neg (show ¬ (([a, b] : List Th).isEmpty) = true by rintro ⟨⟩), if_neg (show ¬ decide ((([a, b] : List Th).length : Int) = 1) = true by intro q; cases of_decide_eq_true q), if_pos (show decide ((([a, b] : List Th).length : Int) = 2) = true from rfl), show atI ([a, b] : List Th) 0 = some a from rfl, bs, show atI ([a, b] : List Th) 1 = some b from rfl, bs]; exact fin _
  · rw [if_neg (show ¬ (([a, b, c] : List Th).isEmpty) = true by rintro ⟨⟩), if_neg (show ¬ decide ((([a, b, c] : List Th).length : Int) = 1) = true by intro q; cases of_decide_eq_true q), if_neg (show ¬ decide ((([a, b, c] : List Th).length : Int) = 2) = true by intro q; cases of_decide_eq_true q), if_pos (show decide ((([a, b, c] : List Th).length : Int) = 3) = true from rfl), show atI ([a, b, c] : List Th) 0 = some a from rfl, bs, show atI ([a, b, c] : List Th) 1 = some b from rfl, bs, show atI ([a, b, c] : List Th) 2 = some c from rfl, bs]; exact fin _
  · rw [if_neg (show ¬ (([a, b, c, d] : List Th).isEmpty) = true by rintro ⟨⟩), if_neg (show ¬ decide ((([a, b, c, d] : List Th).length : Int) = 1) = true by intro q; cases of_decide_eq_true q), if_neg (show ¬ decide ((([a, b, c, d] : List Th).length : Int) = 2) = true by intro q; cases of_decide_eq_true q), if_neg (show ¬ decide ((([a, b, c, d] : List Th).length : Int) = 3) = true by intro q; cases of_decide_eq_true q), if_pos (show decide ((([a, b, c, d] : List Th).length : Int) = 4) = true from rfl), show atI ([a, b, c, d] : List Th) 0 = some a from rfl, bs, show atI ([a, b, c, d] : List Th) 1 = some b from rfl, bs, show atI ([a, b, c, d] : List Th) 2 = some c from rfl, bs, show atI ([a, b, c, d] : List Th) 3 = some d from rfl, bs]; exact fin _
  · rw [if_neg (show ¬ (([a, b, c, d, e] : List Th).isEmpty) = true by rintro ⟨⟩), if_neg (show ¬ decide ((([a, b, c, d, e] : List Th).length : Int) = 1) = true by intro q; cases of_decide_eq_true q), if_neg (show ¬ decide ((([a, b, c, d, e] : List Th).length : Int) = 2) = true by intro q; cases of_decide_eq_true q), if_neg (show ¬ decide ((([a, b, c, d, e] : List Th).length : Int) = 3) = true by intro q; cases of_decide_eq_true q), if_neg (show ¬ decide ((([a, b, c, d, e] : List Th).length : Int) = 4) = true by intro q; cases of_decide_eq_true q), show atI ([a, b, c, d, e] : List Th) 0 = some a from rfl, bs, show atI ([a, b, c, d, e] : List Th) 1 = some b from rfl, bs, show atI ([a, b, c, d, e] : List Th) 2 = some c from rfl, bs, show atI ([a, b, c, d, e] : List Th) 3 = some d from rfl, bs, show atI ([a, b, c, d, e] : List Th) 4 = some e from rfl, bs]; exact fin _
  · simp only [List.length_cons] at h5; omega
theorem exT2 {ε α β : Type} {a : α} {h : ε → Option β} {k : α → Option β} : exT (.ok a) h k = k a := rfl
theorem right2 {r : List Th} (h5 : r.length ≤ 5) (ht : ∀ t ∈ r, DT t) : m_law_right r = some true := by
  have hb := bad_loop r [] (fun p hp => absurd hp List.not_mem_nil) ht
  rw [List.length_nil, Nat.zero_add] at hb
  have e : (List.map dth [] ++ r) = r := rfl
  rw [e] at hb
  have hbad : m_law_first_bad r = some (match fb [] r with | none => -1 | some j => (j : Int)) := by
    unfold m_law_first_bad
    rw [gd_true (rgOk_ok (by omega) (by omega) (by omega) (by omega)), show ((0 : Int)) = ((0 : Nat) : Int) from rfl, hb, bs]
    cases fb [] r <;> rfl
  rcases Nat.eq_zero_or_pos r.length with z | z
  · have e : r = [] := List.length_eq_zero_iff.mp z
    subst e
    unfold m_law_right
    rw [hbad, bs, made_eq h5]
    rfl
  have ne : r.isEmpty = false := by cases r with | nil => cases z | cons _ _ => rfl
  have hi := init2_eq z h5 ht
  cases hf : fb [] r with
  | some j =>
    rw [hf] at hbad hi
    unfold m_law_right
    rw [hbad, bs, made_eq h5, hi, bs]
    show (if r.isEmpty = true then (_ : Option Bool) else _) = some true
    rw [ne, if_neg (show ¬ false = true by decide), if_pos (show oIs (some (j : Int)) true false = true from rfl), if_pos (show (!oIs (some (j : Int)) false false) = true from rfl), gd_true (show shp (dO dI) (some (j : Int)) = true from rfl), gd_true (show shp (dO dI) (some (j : Int)) = true from rfl), if_pos (decide_eq_true rfl)]
    rfl
  | none =>
    rw [hf] at hbad hi
    obtain ⟨qs, rfl, hq⟩ := fb_none r [] (fun p hp => absurd hp List.not_mem_nil) ht hf
    rw [thAll_map] at hi
    have hbad : m_law_first_bad (qs.map dth) = some (-1) := hbad
    have hi : m_Form___init___vx (qs.map dth) = some (.ok qs) := hi
    have sh : shp (dT dS) qs = true := shp_tS fun q h => lowS_ok (hq q h).1
    unfold m_law_right
    rw [hbad, bs, made_eq h5, hi, bs]
    rw [exT2]
    unfold m_Form_parts
    rw [bs, ne, if_pos (show (!false) = true from rfl), if_pos (show decide ((-1 : Int) = -1) = true from rfl), thAll_map, bs, gd_true sh, gd_true sh, decide_eq_true rfl]; rfl
/-! what is drawn -/
theorem lowS_app {a b : Str} (h : lowS a) (k : lowS b) : lowS (a ++ b) := fun c hc => by
  rw [cl_app, List.mem_append] at hc
  exact hc.elim (h c) (k c)
theorem low_SG2 : lowS SG := by
  have h : ∀ c ∈ cl SG, c < 0x110000 := by decide +kernel
  exact h
theorem ix_low2 {s : Str} {i : Int} (g : lowS s) (h : 0 ≤ i) (h2 : i < s.length) (h3 : s.length ≤ 16000000) : Ok (ixS s i) fun z => lowS z ∧ z.length = 1 :=
  (ixS_ok h h2 (Nat.le_trans h3 sizeLine_big)).mono fun z ⟨c, h1, h2⟩ => by
    subst h2
    refine ⟨fun d hd => ?_, rfl⟩
    rw [cl_sg, List.mem_singleton] at hd
    rw [hd]; exact g c (List.mem_of_getElem? h1)
theorem len_app2 (a b : Str) : (a ++ b).length = a.length + b.length := by rw [cl_len, cl_app, List.length_append, ← cl_len, ← cl_len]
theorem good2 {p : Int × Int} : Ok (m_law_good p) fun r => lowS r.1 ∧ 1 ≤ r.1.length ∧ r.1.length ≤ 4 := by
  unfold m_law_good
  refine Ok.bd (take_ok (by decide) (by decide)) fun t1 h1 => Ok.gd (rgOk_ok (by omega) (by omega) (by omega) (by omega)) ?_
  have e0 : ("" : Str).length = 0 := by decide +kernel
  refine Ok.bd (Ok.loop (fun pre s => lowS s.2 ∧ s.2.length = pre.length) ⟨fun c hc => by
    have : cl ("" : Str) = [] := by decide +kernel
    rw [this] at hc; exact absurd hc List.not_mem_nil, e0⟩ fun pre x post s e ⟨g, l⟩ => ?_) fun s ⟨g, l⟩ => Ok.sm ⟨g, ?_, ?_⟩
  · have hp : pre.length < 100 := by
      have := congrArg List.length e
      rw [rng_len] at this
      simp at this
      omega
    unfold m_law_good_b1 m_law_all_signs
    have L : SG.length = 68 := by decide +kernel
    refine Ok.bde rfl (Ok.bd (take_ok (by decide) (by decide)) fun d hd => Ok.bd (ix_low2 low_SG2 hd.1 (by rw [L]; exact hd.2) (by decide +kernel)) fun z hz => Ok.gd (catOk_ok (by rw [hz.2, l]; omega)) (Ok.sm ⟨lowS_app g hz.1, ?_⟩))
    show (s.2 ++ z).length = _
    rw [len_app2, hz.2, l, List.length_append, List.length_singleton]
  · show 1 ≤ s.2.length
    rw [l, rng_len]; omega
  · show s.2.length ≤ 4
    rw [l, rng_len]; omega
theorem dt_str {s : Str} (h : lowS s) (hl : s.length ≤ 100) : DT (Th.d (PyData.str s)) := .inl ⟨s, rfl, h, hl⟩
theorem lit_low : ∀ s ∈ (["", "<Any>", "<digit>", "<word> ", "<>", "a", "&(_<~", "<digits>", "<word>", "<any>"] : List Str), lowS s ∧ s.length ≤ 100 := by
  have h : ∀ s ∈ (["", "<Any>", "<digit>", "<word> ", "<>", "a", "&(_<~", "<digits>", "<word>", "<any>"] : List Str), (cl s).all (fun c => decide (c < 0x110000)) = true ∧ s.length ≤ 100 := by decide +kernel
  exact fun s hs => ⟨fun c hc => of_decide_eq_true (List.all_eq_true.mp (h s hs).1 c hc), (h s hs).2⟩
theorem rep5 {z : Str} (h : lowS z) (hl : z.length = 1) : repOk z 5 = true ∧ lowS (repS z 5) ∧ (repS z 5).length ≤ 100 := by
  have e : ∃ c, z = ⟨#[c]⟩ := by
    have q : (cl z).length = 1 := by rw [← cl_len]; exact hl
    obtain ⟨c, hc⟩ := List.length_eq_one_iff.mp q
    exact ⟨c, cl_inj (by rw [hc]; rfl)⟩
  obtain ⟨c, rfl⟩ := e
  refine ⟨rfl, fun d hd => ?_, by rw [show (repS (⟨#[c]⟩ : Str) 5).length = 5 from rfl]; decide⟩
  have : d ∈ [c, c, c, c, c] := hd
  have hc : c < 0x110000 := h c (List.mem_singleton.mpr rfl)
  simp at this
  rw [this]; exact hc
theorem bad2 {p : Int × Int} : Ok (m_law_bad p) fun r => DT r.1 := by
  unfold m_law_bad
  refine Ok.bd good2 fun g ⟨g1, g2, g3⟩ => Ok.bd (ix_low2 g1 (Int.le_refl _) (by omega) (by omega)) fun z hz => ?_
  obtain ⟨r1, r2, r3⟩ := rep5 hz.1 hz.2
  have lL : ("&(_<~" : Str).length = 5 := by decide +kernel
  have la : ("a" : Str).length = 1 := by decide +kernel
  refine Ok.gd r1 (Ok.bd (take_ok (by decide) (by decide)) fun a ha => Ok.bd (ix_low2 (lit_low "&(_<~" (by simp)).1 ha.1 (by rw [lL]; exact ha.2) (by decide +kernel)) fun y hy => Ok.gd (catOk_ok (by rw [hy.2, la]; omega)) (Ok.gd (by rfl) (Ok.bd (take_ok (by decide) (by decide)) fun b hb => ?_)))
  have all : ∀ t ∈ ([(Th.d (PyData.str (("" : Str)))), (Th.d (PyData.str ((repS z 5)))), (Th.d (PyData.str ((("a" : Str) ++ y)))), (Th.d (PyData.str (("<Any>" : Str)))), (Th.d (PyData.str (("<digit>" : Str)))), (Th.d (PyData.str (("<word> " : Str)))), (Th.d (PyData.str (("<>" : Str))))] ++ [(Th.d (PyData.none)), (Th.d (PyData.int (5))), (Th.d (PyData.bool (true))), (Th.d ((dL dS).d [("a" : Str)]))]), DT t := fun t h => by
    have k : ∀ s ∈ (["", "<Any>", "<digit>", "<word> ", "<>", "a", "&(_<~", "<digits>", "<word>", "<any>"] : List Str), DT (Th.d (PyData.str s)) := fun s hs => dt_str (lit_low s hs).1 (lit_low s hs).2
    simp only [List.cons_append, List.nil_append, List.mem_cons, List.not_mem_nil, or_false] at h
    rcases h with rfl | rfl | rfl | rfl | rfl | rfl | rfl | rfl | rfl | rfl | rfl
    · exact k _ (by simp)
    · exact dt_str r2 r3
    · exact dt_str (lowS_app (lit_low "a" (by simp)).1 hy.1) (by rw [len_app2, hy.2, la]; omega)
    · exact k _ (by simp)
    · exact k _ (by simp)
    · exact k _ (by simp)
    · exact k _ (by simp)
    · exact .inr ⟨by decide, rfl⟩
    · exact .inr ⟨by decide, rfl⟩
    · exact .inr ⟨by decide, rfl⟩
    · exact .inr ⟨by decide, rfl⟩
  have i := List.getElem?_eq_getElem (l := ([(Th.d (PyData.str (("" : Str)))), (Th.d (PyData.str ((repS z 5)))), (Th.d (PyData.str ((("a" : Str) ++ y)))), (Th.d (PyData.str (("<Any>" : Str)))), (Th.d (PyData.str (("<digit>" : Str)))), (Th.d (PyData.str (("<word> " : Str)))), (Th.d (PyData.str (("<>" : Str))))] ++ [(Th.d (PyData.none)), (Th.d (PyData.int (5))), (Th.d (PyData.bool (true))), (Th.d ((dL dS).d [("a" : Str)]))])) (i := b.1.toNat) (by show b.1.toNat < 11; omega)
  refine Ok.bde (by rw [atI_nn hb.1 (by show b.1 < 11; exact hb.2)]; exact i) (Ok.sm (all _ (List.getElem_mem _)))
theorem drawn2 {p : Int × Int} : Ok (m_law_drawn p) fun r => r.1.length ≤ 5 ∧ ∀ t ∈ r.1, DT t := by
  unfold m_law_drawn
  refine Ok.bd (take_ok (by decide) (by decide)) fun t10 _ => Ok.bd (take_ok (by decide) (by decide)) fun t20 h20 => Ok.gd (rgOk_ok (by omega) (by omega) (by omega) (by omega)) ?_
  refine Ok.bd (Ok.loop (fun pre s => s.2.length = pre.length ∧ ∀ t ∈ s.2, DT t) ⟨rfl, fun t ht => absurd ht List.not_mem_nil⟩ fun pre x post s e ⟨l, g⟩ => ?_) fun s ⟨l, g⟩ => Ok.sm ⟨?_, g⟩
  · have hp : pre.length < 100 := by
      have := congrArg List.length e
      rw [rng_len] at this
      simp at this
      omega
    have fin : ∀ t : Th, DT t → (s.2 ++ [t]).length = (pre ++ [x]).length ∧ ∀ z ∈ s.2 ++ [t], DT z := fun t ht => ⟨by simp [l], fun z hz => (List.mem_append.mp hz).elim (g z) fun q => by rw [List.mem_singleton.mp q]; exact ht⟩
    unfold m_law_drawn_b1
    refine Ok.bd (take_ok (by decide) (by decide)) fun t56 h56 => Ok.bd (P := fun _ => True) (Ok.ite (fun _ => Ok.bd (take_ok (by decide) (by decide)) fun _ _ => Ok.sm trivial) fun _ => Ok.sm trivial) fun t76 _ => ?_
    refine Ok.ite (fun _ => Ok.bd bad2 fun b hb => Ok.gd (fits_ok (by omega)) (Ok.sm (fin _ hb))) fun _ => Ok.ite (fun _ => Ok.bd good2 fun b hb => Ok.gd (fits_ok (by omega)) (Ok.sm (fin _ (dt_str hb.1 (by omega))))) fun q => ?_
    have q' := of_decide_eq_false q
    have op : ∃ z, atI [("<digits>" : Str), ("<word>" : Str), ("<any>" : Str)] (t56.1 - 4) = some z ∧ z ∈ (["", "<Any>", "<digit>", "<word> ", "<>", "a", "&(_<~", "<digits>", "<word>", "<any>"] : List Str) := by
      have : t56.1 = 4 ∨ t56.1 = 5 ∨ t56.1 = 6 := by omega
      rcases this with e | e | e <;> rw [e]
      · exact ⟨_, rfl, by simp⟩
      · exact ⟨_, rfl, by simp⟩
      · exact ⟨_, rfl, by simp⟩
    obtain ⟨z, ez, hz⟩ := op
    exact Ok.bde ez (Ok.gd (fits_ok (by omega)) (Ok.sm (fin _ (dt_str (lit_low z hz).1 (lit_low z hz).2))))
  · show s.2.length ≤ 5
    rw [l, rng_len]; omega
theorem math (ns : List Int) (h : ns.length ≤ 63) : m_law ns = some true := by
  unfold m_law
  have hm : 0 ≤ maxI 1 (minI 63 (ns.length : Int)) ∧ maxI 1 (minI 63 (ns.length : Int)) ≤ 63 := by
    unfold maxI minI
    split <;> split <;> omega
  refine Ok.eq (Ok.gd (by decide +kernel) (Ok.gd (by decide +kernel) (Ok.bde (a := false) ?_ ?_)))
  · rw [opB_eq, decide_eq_true rfl, if_neg (by decide), right2 (by decide) (fun t ht => absurd ht List.not_mem_nil), bs]; rfl
  rw [if_neg (by decide)]
  refine Ok.gd (rgOk_ok (by omega) (by omega) (by omega) (by omega)) (Ok.bd (Ok.loopN (fun _ _ => True) trivial fun pre k post q e _ => ?_) ?_)
  · have hk := (rng_at e).2.2
    unfold m_law_b1
    refine Ok.bd (pool_ok (by omega) (by omega)) fun p1 _ => Ok.bd drawn2 fun r ⟨r1, r2⟩ => Ok.bde (right2 r1 r2) ?_
    rw [if_neg (by decide)]
    exact Ok.sm ⟨_, rfl, trivial⟩
  · rintro _ ⟨_, rfl, _⟩
    exact Ok.sm rfl

theorem txHead {P : Program} {K : PySem.W.Frag} {h : Heap} {mg : Str → Option Value} (X : K.In h) (G : h.Ns mainGlobals mg) (c : He.SaysD fa fn K) (t : tabs P K = true) (e_NoForm : fw_NoForm K) : Tx P K mg := {
  F_law_all_signs := fd_of c 0
  g_law_all_signs := He.glo_ok X G (c.fact 0)
  F_law_is_fixed := fd_of c 1
  g_law_is_fixed := He.glo_ok X G (c.fact 1)
  F_law_first_bad := fd_of c 2
  g_law_first_bad := He.glo_ok X G (c.fact 2)
  F_Form_parts := fd_of c 3
  F_is_line := fd_of c 4
  g_is_line := He.glo_ok X G (c.fact 3)
  F_is_allowed := fd_of c 5
  g_is_allowed := He.glo_ok X G (c.fact 4)
  F_Form___init__ := fd_of c 6
  F_law_made := fd_of c 7
  g_law_made := He.glo_ok X G (c.fact 5)
  F_law_other := fd_of c 8
  g_law_other := He.glo_ok X G (c.fact 6)
  F_law_right := fd_of c 9
  g_law_right := He.glo_ok X G (c.fact 7)
  F_law_take := fd_of c 10
  g_law_take := He.glo_ok X G (c.fact 8)
  F_law_good := fd_of c 11
  g_law_good := He.glo_ok X G (c.fact 9)
  F_law_bad := fd_of c 12
  g_law_bad := He.glo_ok X G (c.fact 10)
  F_law_drawn := fd_of c 13
  g_law_drawn := He.glo_ok X G (c.fact 11)
  F_law_pool := fd_of c 14
  g_law_pool := He.glo_ok X G (c.fact 12)
  F_law := fd_of c 15
  g_law := He.glo_ok X G (c.fact 13)
  c_Form := He.cls_ok (c.fact 15)
  gc_Form := He.glo_ok X G (c.fact 14)
  na_Form_pieces := He.noat_ok (c.fact 16)
  me_Form_parts := He.meth_ok (c.fact 17)
  mk_Form := He.mkr_ok (c.fact 18)
  cv_Form_ANY := (He.ba (He.ba t).2).1
  cv_Form_DIGITS := (He.ba (He.ba (He.ba t).2).2).1
  cv_Form_WORD := (He.ba (He.ba (He.ba (He.ba t).2).2).2).1
  er_NoForm := er_ok X G (He.ba (He.ba (He.ba (He.ba (He.ba t).2).2).2).2).1 e_NoForm
  xm_NoForm_NoForm := exmB_ok (He.ba (He.ba (He.ba (He.ba (He.ba (He.ba t).2).2).2).2).2).1
  fip := (He.ba (He.ba (He.ba (He.ba (He.ba (He.ba (He.ba t).2).2).2).2).2).2).1
  ie_NoForm := (He.ba (He.ba (He.ba (He.ba (He.ba (He.ba (He.ba (He.ba t).2).2).2).2).2).2).2).1
  ki_NoForm_GlueError := (He.ba (He.ba (He.ba (He.ba (He.ba (He.ba (He.ba (He.ba (He.ba t).2).2).2).2).2).2).2).2).1
  ki_NoForm_ValueError := (He.ba (He.ba (He.ba (He.ba (He.ba (He.ba (He.ba (He.ba (He.ba (He.ba t).2).2).2).2).2).2).2).2).2).1
  ka_NoForm_NoChange_NoCrew_NoGrammar_NoName_NoOutput_NoRow_NoRows_NoRule_NoText := (He.ba (He.ba (He.ba (He.ba (He.ba (He.ba (He.ba (He.ba (He.ba (He.ba (He.ba t).2).2).2).2).2).2).2).2).2).2).1
  ka_NoForm_NotEnough_NotRight := (He.ba (He.ba (He.ba (He.ba (He.ba (He.ba (He.ba (He.ba (He.ba (He.ba (He.ba (He.ba t).2).2).2).2).2).2).2).2).2).2).2).1
  gx_GlueError := He.glo_ok X G (c.fact 19)
  gx_NoChange := He.glo_ok X G (c.fact 20)
  gx_NoCrew := He.glo_ok X G (c.fact 21)
  gx_NoForm := He.glo_ok X G (c.fact 22)
  gx_NoGrammar := He.glo_ok X G (c.fact 23)
  gx_NoName := He.glo_ok X G (c.fact 24)
  gx_NoOutput := He.glo_ok X G (c.fact 25)
  gx_NoRow := He.glo_ok X G (c.fact 26)
  gx_NoRows := He.glo_ok X G (c.fact 27)
  gx_NoRule := He.glo_ok X G (c.fact 28)
  gx_NoText := He.glo_ok X G (c.fact 29)
  gx_NotEnough := He.glo_ok X G (c.fact 30)
  gx_NotRight := He.glo_ok X G (c.fact 31)
  gx_Pattern := He.glo_ok X G (c.fact 32)
  k_ANY_CELL := He.str_ok X G (c.fact 43)
  g_FREE_CELLS := He.glo_ok X G (c.fact 44)
  q_FREE_CELLS := fun F => ⟨_, _, rfl, He.tupB_ok (He.ba t).1 F, (.cons rfl (.cons rfl (.cons rfl .nil)))⟩
  k_MOST_PARTS := He.int_ok X G (c.fact 45)
  k_MOST_SIGNS := He.int_ok X G (c.fact 46)
  k_SIGNS := He.str_ok X G (c.fact 47)
  n_ValueError := He.free_ok X G (c.fact 33)
  n_bool := He.free_ok X G (c.fact 34)
  n_int := He.free_ok X G (c.fact 35)
  n_isinstance := He.free_ok X G (c.fact 36)
  n_len := He.free_ok X G (c.fact 37)
  n_max := He.free_ok X G (c.fact 38)
  n_min := He.free_ok X G (c.fact 39)
  n_range := He.free_ok X G (c.fact 40)
  n_str := He.free_ok X G (c.fact 41)
  n_tuple := He.free_ok X G (c.fact 42)
}

theorem law_fn {P : Program} {w : World} {K : PySem.W.Frag} {h : Heap} {mg : Str → Option Value} {f : Addr} (X : K.In h) (G : h.Ns mainGlobals mg) (hfa : mg ("law" : Str) = some (.ref f)) (c : He.SaysD fa fn K) (t : tabs P K = true) (e_NoForm : fw_NoForm K) :
    ∃ (K' : PySem.W.Frag) (fd : FuncData) (sp : L2.Sp), K'.In h ∧ (∀ (s : Shared) (v : Value), BindsTo s fd ⟨[v], []⟩ [("_law_script", v)]) ∧ (∀ (H : Hp) (a : Addr) (ns : List Int), ns.length ≤ 63 → Only H → SqL K' H a (ns.map V.int) → sp [.ref a] H (fun v _ => v = .bl true) fun _ _ _ => False) ∧ ∀ base : Heap, K'.In base → base.Ns mainGlobals mg → FnOk P w K' mg base CX0 7 f fd ["_law_script"] sp := by
  have T : Tx P K mg := txHead X G c t e_NoForm
  have e := hfa.symm.trans T.g_law
  cases e
  have b := FunD.bindsA (ps := ["_law_script"]) T.F_law fun _ _ _ _ _ _ us hl => match us, hl with | [_], _ => rfl
  refine ⟨K, _, sp_law K, X, fun s v => b s [v] rfl, fun H a ns hl _ hS => ?_, fun base _ _ => ok_law T⟩
  exact ⟨H, .ref a, ns, true, rfl, Same.refl H, ⟨a, rfl, hS⟩, math ns hl, fun v F' H' _ hv => hv⟩
theorem hk_says {K : PySem.W.Frag} (c : obK K = (true, [rhs_NoForm], He.valD fn)) : He.SaysD fa fn K ∧ tabs RR.prog K = true ∧ fw_NoForm K := by
  have h1 : (tabs RR.prog K && decide ((fwL_NoForm K).map (fun z => z.2.2.2.2.2.2.1) = some (clo_NoForm K))) = true := congrArg Prod.fst c
  have h2 : ([lhs_NoForm K] : List FnU) = [rhs_NoForm] := congrArg (fun z : Bool × List FnU × He.AlD => z.2.1) c
  have h3 : He.SaysD fa fn K := congrArg (fun z : Bool × List FnU × He.AlD => z.2.2) c
  obtain ⟨h1, b0⟩ := He.ba h1
  obtain ⟨a0, h2⟩ := List.cons.inj h2
  exact ⟨h3, h1, fw_mk a0 b0⟩
end Law
open PySem PySem.W PySem.Calls PyProof.Rows
theorem PySem.Challenge.cw_gluedlines_k02_forms_made_or_refused_holds : PySem.Challenge.rw_gluedlines_k02_forms_made_or_refused.Holds := by
  w_on; o_law
  refine HandSHeadRun.head_any (r := OpenLaw.row PySem.Challenge.rw_gluedlines_k02_forms_made_or_refused) (q := view (OpenLaw.row PySem.Challenge.rw_gluedlines_k02_forms_made_or_refused).prog [51]) (H := Law.hk) (ob := Law.ob) (M := 60000) (loose := Law.loose) (d := HandSHeadRun.topDef (OpenLaw.row PySem.Challenge.rw_gluedlines_k02_forms_made_or_refused).prog 51) (kwd := []) Law.ob_eq
    (by kernel_rfl) (fun s => by kernel_rfl) Law.run (by kernel_rfl) (by kernel_rfl) (by kernel_rfl) (by rfl) (by first | assumption | decide +kernel) (by decide +kernel) ⟨rfl, rfl, rfl, rfl, rfl, by decide +kernel⟩ ?hw ?hc
  case hw => w_witness2
  case hc =>
    refine L2.walk_ofE (l := PySem.Challenge.rw_gluedlines_k02_forms_made_or_refused) (n := 63) (k := 7) (x := "_law_script") (CX := L2.CX0) rfl (by decide) (by kernel_rfl) ⟨rfl, by decide, by decide⟩ ?F (fun _ _ _ _ z => z)
    intro w mg fa h Y G hmg0
    obtain ⟨K, KX, c⟩ := Y
    have hmg : mg ("law" : PySem.Str) = some (.ref fa) := by
      have e : (HandSHeadRun.topDef (OpenLaw.row PySem.Challenge.rw_gluedlines_k02_forms_made_or_refused).prog 51).name = ("law" : PySem.Str) := by kernel_rfl
      rw [← e]
      exact hmg0
    obtain ⟨c, t, e0⟩ := Law.hk_says c
    exact Law.law_fn KX G hmg c t e0
#print axioms PySem.Challenge.cw_gluedlines_k02_forms_made_or_refused_holds
