import PyProof.Rows.All
import Wide.All
import OpenK.AllK
import Wide.FinOn
import KE.KStateDown
import HandS.ForMost
import HandS.Exc
import HandS.WordsExc
import HandS.Defaults
import HandS.Conv
import HandS.Flow
import HandS.IsInst
import HandS.Codes
import HandS.Dict
import HandS.Star
import HandS.Iter
import HandS.Zip
import HandS.Text
import HandS.TupAny
import HandS.Style
import HandS.SortInts
import PyProof.Rows.TmSorted
import PyProof.Rows.SortStr
import KE.KeyNested
import PyProof.DictRoadsH
import PyProof.Rows.TupTab
import HandS.Head0
import HandS.Head1
import HandS.Head2
import HandS.HeadEnd
import HandS.HeadHook1
import HandS.HeadHook2
import KE.KOpsOwn
import KE.KExcSuper
import HandS.ExcInit
import HandS.ExcField
import KE.SortData
import HandS.DictTup
import PyProof.DictMoreH
import HandS.NoneIn
import HandS.SetFor
import HandS.Strs
import KE.DataCmp
import HandS.Replace
import HandS.ReplaceList
import KE.KDictSum
import KE.KDictCopyH
import KE.KCallOwn
import HandS.FStr
import HandS.ExcValue
import HandS.Deep
import HandS.ExcOwn
import KE.KExcIs
import HandS.Property
import HandS.MakeKwOnly
import HandS.ClsMeth
import HandS.SetBool
import HandS.TupSets
import HandS.CallSlots
import PySem.Challenge.RW_gluedlines_k27_marks_and_parts_of_rules
set_option Elab.async false
set_option linter.all false
set_option maxRecDepth 100000
set_option maxHeartbeats 4000000
set_option synthInstance.maxSize 1000
set_option synthInstance.maxHeartbeats 400000
namespace Gl
open PySem PySem.Spec PyProof.Rows L2
def gd {α : Type} (b : Bool) (x : Option α) : Option α := match b with
  | true => x
  | false => none
theorem gd_some {α : Type} {b : Bool} {x : Option α} {r : α} (h : gd b x = some r) : b = true ∧ x = some r := by
  cases b with
  | true => exact ⟨rfl, h⟩
  | false => cases h
theorem gd_true {α : Type} {b : Bool} {x : Option α} (h : b = true) : gd b x = x := by rw [h]; rfl
theorem bd_some {α β : Type} {x : Option α} {k : α → Option β} {r : β} (h : x.bind k = some r) : ∃ a, x = some a ∧ k a = some r := by
  cases x with
  | none => cases h
  | some a => exact ⟨a, rfl, h⟩
inductive Ctl (S R : Type) where
  | nx (s : S) | bk (s : S) | rt (r : R)

theorem pGet {α β : Type} {R : α → β → Prop} : ∀ {xs : List α} {ys : List β} {i : Nat} {y : β}, Paired R xs ys → ys[i]? = some y → ∃ x, xs[i]? = some x ∧ R x y
  | _, _, _, _, .nil, e => by simp at e
  | _, _, 0, _, .cons r _, e => by simp at e; subst e; exact ⟨_, rfl, r⟩
  | _, _, i + 1, y, .cons _ t, e => by
    obtain ⟨x, h1, h2⟩ := pGet (i := i) (y := y) t (by simpa using e)
    exact ⟨x, by simpa using h1, h2⟩
theorem pGetL {α β : Type} {R : α → β → Prop} : ∀ {xs : List α} {ys : List β} {i : Nat} {x : α}, Paired R xs ys → xs[i]? = some x → ∃ y, ys[i]? = some y ∧ R x y
  | _, _, _, _, .nil, e => by simp at e
  | _, _, 0, _, .cons r _, e => by simp at e; subst e; exact ⟨_, rfl, r⟩
  | _, _, i + 1, y, .cons _ t, e => by
    obtain ⟨x, h1, h2⟩ := pGetL (i := i) (x := y) t (by simpa using e)
    exact ⟨x, by simpa using h1, h2⟩
theorem pApp {α β : Type} {R : α → β → Prop} : ∀ {xs xs' : List α} {ys ys' : List β}, Paired R xs ys → Paired R xs' ys' → Paired R (xs ++ xs') (ys ++ ys')
  | _, _, _, _, .nil, s => s
  | _, _, _, _, .cons r t, s => .cons r (pApp t s)
theorem pDrop {α β : Type} {R : α → β → Prop} : ∀ {xs : List α} {ys : List β} (n : Nat), Paired R xs ys → Paired R (xs.drop n) (ys.drop n)
  | _, _, 0, r => r
  | _, _, _ + 1, .nil => .nil
  | _, _, n + 1, .cons _ t => pDrop n t
theorem pTake {α β : Type} {R : α → β → Prop} : ∀ {xs : List α} {ys : List β} (n : Nat), Paired R xs ys → Paired R (xs.take n) (ys.take n)
  | _, _, 0, _ => .nil
  | _, _, _ + 1, .nil => .nil
  | _, _, n + 1, .cons r t => .cons r (pTake n t)
theorem pLen {α β : Type} {R : α → β → Prop} {xs : List α} {ys : List β} (h : Paired R xs ys) : xs.length = ys.length := h.length
structure R (α : Type) where
  r : PySem.W.Frag → Hp → V → α → Prop
  mono : ∀ {K : PySem.W.Frag} {F F' : Hp} {v : V} {a : α}, Same F F' → r K F v a → r K F' v a
def qI : R Int := ⟨fun _ _ v i => v = .int i, fun _ h => h⟩
def qB : R Bool := ⟨fun _ _ v i => v = .bl i, fun _ h => h⟩
def qS : R Str := ⟨fun _ _ v i => v = .str i, fun _ h => h⟩
def qN : R Unit := ⟨fun _ _ v _ => v = .non, fun _ h => h⟩
def qO {α : Type} (A : R α) : R (Option α) := ⟨fun K F v i => match i with
  | none => v = .non
  | some a => A.r K F v a, fun {K F F' v a} e h => by
    cases a with
    | none => exact h
    | some a => exact A.mono e h⟩
abbrev Row {α : Type} (A : R α) (K : PySem.W.Frag) (F : Hp) (vs : List V) (xs : List α) : Prop := Paired (fun v x => A.r K F v x) vs xs
theorem Row.mono {α : Type} {A : R α} {K : PySem.W.Frag} {F F' : Hp} {vs : List V} {xs : List α} (e : Same F F') (h : Row A K F vs xs) : Row A K F' vs xs := Paired.mapP h fun _ _ r => A.mono e r
theorem same_t {K : PySem.W.Frag} {H H' : Hp} {a : Addr} {xs : List V} (e : Same H H') (h : SqT K H a xs) : SqT K H' a xs := by
  rcases h with (h | ⟨o, h⟩) | h
  · exact .inl (.inl (e _ _ h))
  · exact .inl (.inr ⟨o, e _ _ h⟩)
  · exact .inr h
def qL {α : Type} (A : R α) : R (List α) := ⟨fun K F v xs => ∃ p vs, v = .ref p ∧ F p = some (.lst vs) ∧ Row A K F vs xs, fun e ⟨p, vs, h1, h2, h3⟩ => ⟨p, vs, h1, e _ _ h2, Row.mono e h3⟩⟩
def qT {α : Type} (A : R α) : R (List α) := ⟨fun K F v xs => ∃ p vs, v = .ref p ∧ SqT K F p vs ∧ Row A K F vs xs, fun e ⟨p, vs, h1, h2, h3⟩ => ⟨p, vs, h1, same_t e h2, Row.mono e h3⟩⟩
def qQ {α : Type} (A : R α) : R (List α) := ⟨fun K F v xs => (qL A).r K F v xs ∨ (qT A).r K F v xs, fun e h => h.elim (fun h => .inl ((qL A).mono e h)) fun h => .inr ((qT A).mono e h)⟩
def q2 {α β : Type} (A : R α) (B : R β) : R (α × β) := ⟨fun K F v x => ∃ p u w, v = .ref p ∧ SqT K F p [u, w] ∧ A.r K F u x.1 ∧ B.r K F w x.2, fun e ⟨p, u, w, h1, h2, h3, h4⟩ => ⟨p, u, w, h1, same_t e h2, A.mono e h3, B.mono e h4⟩⟩
def q3 {α β γ : Type} (A : R α) (B : R β) (C : R γ) : R (α × β × γ) := ⟨fun K F v x => ∃ p u w z, v = .ref p ∧ SqT K F p [u, w, z] ∧ A.r K F u x.1 ∧ B.r K F w x.2.1 ∧ C.r K F z x.2.2, fun e ⟨p, u, w, z, h1, h2, h3, h4, h5⟩ => ⟨p, u, w, z, h1, same_t e h2, A.mono e h3, B.mono e h4, C.mono e h5⟩⟩

structure Sx (P : Addr → Prop) (F0 H0 F H : Hp) : Prop where
  le : Same F0 F
  sub : Same F H
  new : ∀ a o, F a = some o → F0 a = none → H0 a = none ∨ P a
  same : ∀ a o, H0 a = some o → ¬ P a → H a = some o
  live : ∀ a, P a → H a ≠ none
structure Ow (P : Addr → Prop) (H0 F H : Hp) (p : Addr) (o : HO) : Prop where
  fr : F p = none
  at_ : H p = some o
  mine : H0 p = none ∨ P p
abbrev P0 : Addr → Prop := fun _ => False
section
variable {P P' : Addr → Prop} {F0 H0 F H F' H' : Hp} {p q : Addr} {o u : HO}
theorem Sx.refl (h : Same F H) (l : ∀ a, P a → H a ≠ none) : Sx P F H F H := ⟨Same.refl F, h, fun a o e n => absurd (n.symm.trans e) (fun z => nomatch z), fun _ _ e _ => e, l⟩
theorem Sx.refl0 (h : Same F H) : Sx P0 F H F H := Sx.refl h fun _ z => z.elim
theorem Sx.free (S : Sx P F0 H0 F H) (h : H q = none) : F q = none := S.sub.free h
theorem Sx.free0 (S : Sx P F0 H0 F H) (h : H q = none) : H0 q = none := by
  cases e : H0 q with
  | none => rfl
  | some o =>
    have np : ¬ P q := fun z => S.live q z h
    have := S.same q o e np
    rw [h] at this
    cases this
theorem Sx.leN (S : Sx P F0 H0 F H) (h : H q = none) : Same F (upd F q o) := fun a u e => by
  rw [upd_ne (ne_of_none e (S.free h))]
  exact e
theorem Sx.temp (S : Sx P F0 H0 F H) (h : H q = none) : Sx P F0 H0 F (upd H q o) := by
  refine ⟨S.le, fun a u e => ?_, S.new, fun a u e n => ?_, fun a z => ?_⟩
  · rw [upd_ne (ne_of_none (S.sub a u e) h)]; exact S.sub a u e
  · rw [upd_ne (ne_of_none (S.same a u e n) h)]; exact S.same a u e n
  · have l := S.live a z
    have ne : a ≠ q := fun e => l (by rw [e]; exact h)
    rw [upd_ne ne]; exact l
theorem Sx.alloc (S : Sx P F0 H0 F H) (h : H q = none) : Sx P F0 H0 (upd F q o) (upd H q o) := by
  refine ⟨S.le.trans (S.leN h), fun a u e => ?_, fun a u e n => ?_, (S.temp h).same, (S.temp h).live⟩
  · by_cases z : a = q
    · subst z; rw [upd_same] at e ⊢; exact e
    · rw [upd_ne z] at e ⊢; exact S.sub a u e
  · by_cases z : a = q
    · subst z; exact .inl (S.free0 h)
    · rw [upd_ne z] at e; exact S.new a u e n
theorem Sx.put (S : Sx P F0 H0 F H) (w : Ow P H0 F H p o) : Sx P F0 H0 F (upd H p u) := by
  refine ⟨S.le, fun a v e => ?_, S.new, fun a v e n => ?_, fun a z => ?_⟩
  · have ne : a ≠ p := fun z => by rw [z, w.fr] at e; cases e
    rw [upd_ne ne]; exact S.sub a v e
  · have ne : a ≠ p := fun z => by
      rcases w.mine with m | m
      · rw [z, m] at e; cases e
      · exact n (z ▸ m)
    rw [upd_ne ne]; exact S.same a v e n
  · by_cases e : a = p
    · subst e; rw [upd_same]; exact fun h => nomatch h
    · rw [upd_ne e]; exact S.live a z
theorem Sx.freezeP (S : Sx P F0 H0 F H) (w : Ow P H0 F H p o) : Sx P F0 H0 (upd F p o) H := by
  refine ⟨S.le.trans fun a u e => ?_, fun a u e => ?_, fun a u e n => ?_, S.same, S.live⟩
  · rw [upd_ne (ne_of_none e w.fr)]; exact e
  · by_cases z : a = p
    · subst z; rw [upd_same] at e; cases e; exact w.at_
    · rw [upd_ne z] at e; exact S.sub a u e
  · by_cases z : a = p
    · subst z; exact w.mine
    · rw [upd_ne z] at e; exact S.new a u e n
theorem Sx.freeze (S : Sx P F0 H0 F H) (w : Ow P H0 F H p o) (_ : H0 p = none) : Sx P F0 H0 (upd F p o) H := S.freezeP w
theorem Ow.leF (w : Ow P H0 F H p o) : Same F (upd F p o) := fun a u e => by rw [upd_ne (ne_of_none e w.fr)]; exact e
theorem Sx.call (S : Sx P F0 H0 F H) (c : Sx P' F H F' H') (h : ∀ a, P' a → P a ∨ H0 a = none) : Sx P F0 H0 F' H' := by
  refine ⟨S.le.trans c.le, c.sub, fun a u e n => ?_, fun a u e n => ?_, fun a z => ?_⟩
  · cases q : F a with
    | some o => exact S.new a o q n
    | none => exact (c.new a u e q).elim (fun z => .inl (S.free0 z)) fun z => (h a z).symm
  · refine c.same a u (S.same a u e n) fun z => ?_
    rcases h a z with z | z
    · exact n z
    · rw [z] at e; cases e
  · by_cases y : P' a
    · exact c.live a y
    · have l := S.live a z
      cases e : H a with
      | none => exact absurd e l
      | some o =>
        rw [c.same a o e y]
        exact fun h => nomatch h
theorem Sx.call0 (S : Sx P F0 H0 F H) (c : Sx P0 F H F' H') : Sx P F0 H0 F' H' := S.call c fun _ z => z.elim
theorem Sx.call1 (S : Sx P F0 H0 F H) (c : Sx (fun a => a = p) F H F' H') (w : Ow P H0 F H p o) : Sx P F0 H0 F' H' := S.call c fun a z => by
  subst z
  exact w.mine.symm
theorem Ow.call (w : Ow P H0 F H p o) (c : Sx P' F H F' H') (n : ¬ P' p) : Ow P H0 F' H' p o := by
  refine ⟨?_, c.same p o w.at_ n, w.mine⟩
  cases q : F' p with
  | none => rfl
  | some u =>
    rcases c.new p u q w.fr with z | z
    · rw [w.at_] at z
      cases z
    · exact absurd z n
theorem Ow.call0 (w : Ow P H0 F H p o) (c : Sx P0 F H F' H') : Ow P H0 F' H' p o := w.call c fun z => z
theorem Ow.ne (w : Ow P H0 F H p o) (h : H q = none) : p ≠ q := ne_of_none w.at_ h
theorem Ow.temp (w : Ow P H0 F H p o) (h : H q = none) : Ow P H0 F (upd H q u) p o := ⟨w.fr, by rw [upd_ne (w.ne h)]; exact w.at_, w.mine⟩
theorem Ow.alloc (w : Ow P H0 F H p o) (h : H q = none) : Ow P H0 (upd F q u) (upd H q u) p o := ⟨by rw [upd_ne (w.ne h)]; exact w.fr, by rw [upd_ne (w.ne h)]; exact w.at_, w.mine⟩
theorem Ow.put (w : Ow P H0 F H p o) : Ow P H0 F (upd H p u) p u := ⟨w.fr, upd_same, w.mine⟩
theorem Ow.putO {o' : HO} (w : Ow P H0 F H p o) (n : p ≠ q) : Ow P H0 F (upd H q o') p o := ⟨w.fr, by rw [upd_ne n]; exact w.at_, w.mine⟩
theorem Sx.own (S : Sx P F0 H0 F H) (h : H q = none) : Ow P H0 F (upd H q o) q o := ⟨S.free h, upd_same, .inl (S.free0 h)⟩
theorem Ow.arg (w : Ow P H0 F H p o) : Ow (fun a => a = p) H F H p o := ⟨w.fr, w.at_, .inr rfl⟩
theorem Ow.back {o' : HO} (w : Ow P H0 F H p o) (z : Ow (fun a => a = p) H F' H' p o') : Ow P H0 F' H' p o' := ⟨z.fr, z.at_, w.mine⟩
end
end Gl
namespace Gl
open PySem PySem.Spec PyProof.Rows L2
theorem if_b {β : Type} {b : Bool} {A B : Prop} {m1 m2 : Option β} {r : β} (hm : (if b = true then m1 else m2) = some r) (h1 : b = true → m1 = some r → A) (h2 : b = false → m2 = some r → B) : if b = true then A else B := by
  cases b with
  | true => exact h1 rfl hm
  | false => exact h2 rfl hm
theorem if_j {b : Bool} {A B : Prop} (h1 : b = true → A) (h2 : b = false → B) : if b = true then A else B := by
  cases b with
  | true => exact h1 rfl
  | false => exact h2 rfl
theorem and_j {b : Bool} {u : (Bool → Hp → Prop) → Prop} {Q : Bool → Hp → Prop} {H : Hp} (J : Bool → Hp → Prop) (h1 : b = true → ∀ Q' : Bool → Hp → Prop, (∀ c H', J c H' → Q' c H') → u Q') (h2 : b = false → J false H) (k : ∀ c H', J c H' → Q c H') : if b = true then u Q else Q false H := by
  cases b with
  | true => exact h1 rfl Q k
  | false => exact k _ _ (h2 rfl)
theorem or_j {b : Bool} {u : (Bool → Hp → Prop) → Prop} {Q : Bool → Hp → Prop} {H : Hp} (J : Bool → Hp → Prop) (h1 : b = false → ∀ Q' : Bool → Hp → Prop, (∀ c H', J c H' → Q' c H') → u Q') (h2 : b = true → J true H) (k : ∀ c H', J c H' → Q c H') : if b = true then Q true H else u Q := by
  cases b with
  | true => exact k _ _ (h2 rfl)
  | false => exact h1 rfl Q k
theorem andV_j {b : Bool} {u : VK → Prop} {Q : VK} {H : Hp} (J : V → Hp → Prop) (h1 : b = true → ∀ Q' : VK, (∀ c H', J c H' → Q' c H') → u Q') (h2 : b = false → J (.bl false) H) (k : ∀ c H', J c H' → Q c H') : if b = true then u Q else Q (.bl false) H := by
  cases b with
  | true => exact h1 rfl Q k
  | false => exact k _ _ (h2 rfl)
theorem orV_j {b : Bool} {u : VK → Prop} {Q : VK} {H : Hp} (J : V → Hp → Prop) (h1 : b = false → ∀ Q' : VK, (∀ c H', J c H' → Q' c H') → u Q') (h2 : b = true → J (.bl true) H) (k : ∀ c H', J c H' → Q c H') : if b = true then Q (.bl true) H else u Q := by
  cases b with
  | true => exact k _ _ (h2 rfl)
  | false => exact h1 rfl Q k
theorem and_p {b c : Bool} {u : (Bool → Hp → Prop) → Prop} {Q : Bool → Hp → Prop} {H : Hp} (hu : b = true → ∀ Q' : Bool → Hp → Prop, Q' c H → u Q') (k : Q (b && c) H) : if b = true then u Q else Q false H := by
  cases b with
  | true => exact hu rfl Q k
  | false => exact k
theorem or_p {b c : Bool} {u : (Bool → Hp → Prop) → Prop} {Q : Bool → Hp → Prop} {H : Hp} (hu : b = false → ∀ Q' : Bool → Hp → Prop, Q' c H → u Q') (k : Q (b || c) H) : if b = true then Q true H else u Q := by
  cases b with
  | true => exact k
  | false => exact hu rfl Q k
theorem orV_p {b c : Bool} {u : VK → Prop} {Q : VK} {H : Hp} (hu : b = false → ∀ Q' : VK, Q' (.bl c) H → u Q') (k : Q (.bl (b || c)) H) : if b = true then Q (.bl true) H else u Q := by
  cases b with
  | true => exact k
  | false => exact hu rfl Q k

section
variable {X : Cx}
theorem op_eqI : OpR X (compareOp .Eq) (rI0 fun i j => .bl (decide (i = j))) := opB0 fun _ _ _ _ _ _ _ h => eq_int (by rw [Bool.beq_eq_decide_eq]; exact h)
theorem op_neI : OpR X (compareOp .NotEq) (rI0 fun i j => .bl (!decide (i = j))) := opB0 fun _ _ _ _ _ _ _ h => ne_int (by rw [bne, Bool.beq_eq_decide_eq]; exact h)
def rS0 (g : Str → Str → V) : R2 := fun x y H Q => ∃ i j, x = .str i ∧ y = .str j ∧ Q (g i j) H
theorem dec_strV {i j : Str} : decide (V.str i = V.str j) = decide (i = j) := by
  by_cases e : i = j
  · subst e; simp
  · rw [decide_eq_false e, decide_eq_false fun z => e (V.str.inj z)]
theorem dec_blV {i j : Bool} : decide (V.bl i = V.bl j) = decide (i = j) := by cases i <;> cases j <;> rfl
theorem op_eqS : OpR X (compareOp .Eq) (rS0 fun i j => .bl (decide (i = j))) := by
  intro pins s σ H x y v u Q I rx ry h
  obtain ⟨i, j, rfl, rfl, q⟩ := h
  exact op_eq pins s σ H _ _ v u Q I rx ry ⟨rfl, by rw [dec_strV]; exact q⟩
theorem op_neS : OpR X (compareOp .NotEq) (rS0 fun i j => .bl (!decide (i = j))) := by
  intro pins s σ H x y v u Q I rx ry h
  obtain ⟨i, j, rfl, rfl, q⟩ := h
  exact op_ne pins s σ H _ _ v u Q I rx ry ⟨rfl, by rw [dec_strV]; exact q⟩
def rB0 (g : Bool → Bool → V) : R2 := fun x y H Q => ∃ i j, x = .bl i ∧ y = .bl j ∧ Q (g i j) H
theorem op_neB : OpR X (compareOp .NotEq) (rB0 fun i j => .bl (!decide (i = j))) := by
  intro pins s σ H x y v u Q I rx ry h
  obtain ⟨i, j, rfl, rfl, q⟩ := h
  exact op_ne pins s σ H _ _ v u Q I rx ry ⟨rfl, by rw [dec_blV]; exact q⟩
end
def inS (i j : Str) : Bool := !(Builtin.Str.occurrences j i 0 j.length 1).isEmpty
def mulOk (a b : Int) : Bool := (decide (-(2 ^ 64) < a) && decide (a < 2 ^ 64)) || (decide (-(2 ^ 64) < b) && decide (b < 2 ^ 64))
theorem mulOk_of {a b : Int} (h : mulOk a b = true) : CMul a b := by
  unfold mulOk at h
  simp only [Bool.or_eq_true, Bool.and_eq_true, decide_eq_true_eq] at h
  exact h
def divOk (b : Int) : Bool := decide (0 < b) && decide (b < 1073741824)
theorem divOk_of {a b : Int} (h : divOk b = true) : CDiv a b := by
  unfold divOk at h
  simp only [Bool.and_eq_true, decide_eq_true_eq] at h
  exact h
def modOk (b : Int) : Bool := decide (0 < b)
theorem modOk_of {b : Int} (h : modOk b = true) : 0 < b := of_decide_eq_true h
def powOk (a b : Int) : Bool := decide (0 ≤ b) && (decide (b ≤ 1000000) && decide (a.natAbs < 2 ^ 64))
theorem powOk_of {a b : Int} (h : powOk a b = true) : CPow a b := by
  unfold powOk at h
  simp only [Bool.and_eq_true, decide_eq_true_eq] at h
  exact h
def catOk (a b : Str) : Bool := decide (a.length + b.length ≤ sizeLine)
theorem catOk_of {a b : Str} (h : catOk a b = true) : a.length + b.length ≤ sizeLine := of_decide_eq_true h
def fits {α : Type} (a : List α) : Bool := decide (a.length < sizeLine)
def fitsS (a : Str) : Bool := decide (a.length ≤ sizeLine)
theorem fitsS_of {a : Str} (h : fitsS a = true) : a.length ≤ sizeLine := of_decide_eq_true h
def fits2 {α : Type} (a b : List α) : Bool := decide (a.length + b.length ≤ sizeLine)
def ixS (s : Str) (i : Int) : Option Str := gd (fitsS s) ((atI s.cps.toList i).bind fun c => some ⟨#[c]⟩)
theorem ixS_some {s z : Str} {i : Int} (h : ixS s i = some z) : ∃ c, s.length ≤ sizeLine ∧ atI s.cps.toList i = some c ∧ z = ⟨#[c]⟩ := by
  obtain ⟨h1, h2⟩ := gd_some h
  obtain ⟨c, h3, h4⟩ := bd_some h2
  exact ⟨c, fitsS_of h1, h3, (Option.some.inj h4).symm⟩
def cut {α : Type} (xs : List α) (lo hi : Option Int) : List α := (xs.drop (HT.sIx xs.length 0 lo)).take (HT.sIx xs.length xs.length hi - HT.sIx xs.length 0 lo)
def rng (a b : Int) : List Int := (List.range (b - a).toNat).map fun i => a + (i : Nat)
def maxI (i j : Int) : Int := if j > i then j else i
def minI (i j : Int) : Int := if j < i then j else i
def b2I (b : Bool) : Int := if b then 1 else 0
def sgns (z : Str) : List Str := z.cps.toList.map fun c => ⟨#[c]⟩

section
variable {α : Type} {A : R α} {K : PySem.W.Frag} {F H F0 H0 : Hp} {P : Addr → Prop} {v : V} {xs ys : List α} {Q : VK} {i : Int} {a : α} {p : Addr} {vs : List V}
def SeenL (A : R α) (K : PySem.W.Frag) (F H : Hp) (v : V) (xs : List α) : Prop := ∃ p vs, v = .ref p ∧ H p = some (.lst vs) ∧ Row A K F vs xs
def SeenR (A : R α) (K : PySem.W.Frag) (F H : Hp) (v : V) (xs : List α) : Prop := ∃ p vs, v = .ref p ∧ SqL K H p vs ∧ Row A K F vs xs
def SeenT (A : R α) (K : PySem.W.Frag) (F H : Hp) (v : V) (xs : List α) : Prop := ∃ p vs, v = .ref p ∧ SqT K H p vs ∧ Row A K F vs xs
def SeenQ (A : R α) (K : PySem.W.Frag) (F H : Hp) (v : V) (xs : List α) : Prop := SeenR A K F H v xs ∨ SeenT A K F H v xs
theorem SeenL.r (h : SeenL A K F H v xs) : SeenR A K F H v xs := let ⟨p, vs, h1, h2, h3⟩ := h; ⟨p, vs, h1, SqL.of h2, h3⟩
theorem Sx.l (S : Sx P F0 H0 F H) (r : (qL A).r K F v xs) : SeenL A K F H v xs := let ⟨p, vs, h1, h2, h3⟩ := r; ⟨p, vs, h1, S.sub _ _ h2, h3⟩
theorem Sx.t (S : Sx P F0 H0 F H) (r : (qT A).r K F v xs) : SeenT A K F H v xs := let ⟨p, vs, h1, h2, h3⟩ := r; ⟨p, vs, h1, same_t S.sub h2, h3⟩
theorem Sx.q (S : Sx P F0 H0 F H) (r : (qQ A).r K F v xs) : SeenQ A K F H v xs := r.elim (fun r => .inl (S.l r).r) fun r => .inr (S.t r)
theorem Ow.l (w : Ow P H0 F H p (.lst vs)) (r : Row A K F vs xs) : SeenL A K F H (.ref p) xs := ⟨p, vs, rfl, w.at_, r⟩
theorem SeenL.q (h : SeenL A K F H v xs) : SeenQ A K F H v xs := .inl h.r
theorem SeenR.q (h : SeenR A K F H v xs) : SeenQ A K F H v xs := .inl h
theorem SeenT.q (h : SeenT A K F H v xs) : SeenQ A K F H v xs := .inr h
theorem SeenQ.seq (h : SeenQ A K F H v xs) : ∃ p vs, v = .ref p ∧ (SqL K H p vs ∨ SqT K H p vs) ∧ Row A K F vs xs := by
  rcases h with ⟨p, vs, rfl, h, r⟩ | ⟨p, vs, rfl, h, r⟩
  · exact ⟨p, vs, rfl, .inl h, r⟩
  · exact ⟨p, vs, rfl, .inr h, r⟩
def qC : R (List Int) := ⟨fun K F v xs => ∃ p, v = .ref p ∧ SqL K F p (xs.map V.int), fun e ⟨p, h1, h2⟩ => ⟨p, h1, Same.seq e h2⟩⟩
theorem row_ints {K : PySem.W.Frag} {F : Hp} : ∀ xs : List Int, Row qI K F (xs.map V.int) xs
  | [] => .nil
  | _ :: xs => .cons rfl (row_ints xs)
theorem Sx.c {xs : List Int} (S : Sx P F0 H0 F H) (r : qC.r K F v xs) : SeenR qI K F H v xs := let ⟨p, h1, h2⟩ := r; ⟨p, _, h1, Same.seq S.sub h2, row_ints xs⟩
theorem row_at (r : Row A K F vs xs) (h : atI xs i = some a) : ∃ u, atI vs i = some u ∧ A.r K F u a := by
  unfold atI at h ⊢
  rw [pLen r]
  obtain ⟨j, h1, h2⟩ := bd_some h
  obtain ⟨u, h3, h4⟩ := pGet r h2
  exact ⟨u, by rw [h1]; exact h3, h4⟩
theorem row_cut (r : Row A K F vs xs) (lo hi : Option Int) : Row A K F (cutV vs lo hi) (cut xs lo hi) := by
  unfold cutV cut
  rw [pLen r]
  exact pTake _ (pDrop _ r)
theorem rd_ixL (s : SeenR A K F H v xs) (h : atI xs i = some a) (k : ∀ u, A.r K F u a → Q u H) : rIxL K v (.int i) H Q := by
  obtain ⟨p, vs, rfl, h1, r⟩ := s
  obtain ⟨u, h2, h3⟩ := row_at r h
  exact ⟨p, vs, i, u, rfl, rfl, h1, h2, k u h3⟩
theorem rd_ixT (s : SeenT A K F H v xs) (h : atI xs i = some a) (k : ∀ u, A.r K F u a → Q u H) : rIxT K v (.int i) H Q := by
  obtain ⟨p, vs, rfl, h1, r⟩ := s
  obtain ⟨u, h2, h3⟩ := row_at r h
  exact ⟨p, vs, i, u, rfl, rfl, h1, h2, k u h3⟩
theorem rd_len (s : SeenQ A K F H v xs) (k : Q (.int (xs.length : Int)) H) : ∃ p ys, [v] = [V.ref p] ∧ (SqL K H p ys ∨ SqT K H p ys) ∧ Q (.int (ys.length : Int)) H := by
  obtain ⟨p, vs, rfl, h1, r⟩ := s.seq
  exact ⟨p, vs, rfl, h1, by rw [pLen r]; exact k⟩
def nK (Q : VK) (H : Hp) (o : HO) : Prop := ∀ p, H p = none → Q (.ref p) (upd H p o)
def nL (A : R α) (K : PySem.W.Frag) (F : Hp) (Q : VK) (H : Hp) (xs : List α) : Prop := ∀ p us, H p = none → Row A K F us xs → Q (.ref p) (upd H p (.lst us))
def nT (A : R α) (K : PySem.W.Frag) (F : Hp) (Q : VK) (H : Hp) (xs : List α) : Prop := ∀ p us, H p = none → Row A K F us xs → Q (.ref p) (upd H p (.tup us))
theorem rd_slL {lo hi : Option Int} (s : SeenR A K F H v xs) (k : nL A K F Q H (cut xs lo hi)) : rSlL K v lo hi H Q := by
  obtain ⟨p, vs, rfl, h1, r⟩ := s
  exact ⟨p, vs, rfl, h1, fun q hq => k q _ hq (row_cut r lo hi)⟩
theorem rd_list (s : SeenQ A K F H v xs) (k : nL A K F Q H xs) : ∃ p ys, [v] = [V.ref p] ∧ (SqL K H p ys ∨ SqT K H p ys) ∧ ∀ l, H l = none → Q (.ref l) (upd H l (.lst ys)) := by
  obtain ⟨p, vs, rfl, h1, r⟩ := s.seq
  exact ⟨p, vs, rfl, h1, fun q hq => k q _ hq r⟩
theorem rd_tuple (s : SeenR A K F H v xs) (k : nT A K F Q H xs) : kTup K v H Q := by
  obtain ⟨p, vs, rfl, h1, r⟩ := s
  exact .inl ⟨p, vs, rfl, h1, fun q hq => k q _ hq r⟩
theorem rd_cat (s : SeenL A K F H v xs) {w : V} (t : SeenL A K F H w ys) (h : fits2 xs ys = true) (k : nL A K F Q H (xs ++ ys)) : rCat v w H Q := by
  obtain ⟨p, vs, rfl, h1, r⟩ := s
  obtain ⟨q, us, rfl, h2, r2⟩ := t
  exact ⟨p, q, vs, us, rfl, rfl, h1, h2, by rw [pLen r, pLen r2]; exact of_decide_eq_true h, fun z hz => k z _ hz (pApp r r2)⟩
theorem rd_app (w : Ow P H0 F H p (.lst vs)) (r : Row A K F vs xs) {y : V} (h : fits xs = true) (k : Q .non (upd H p (.lst (vs ++ [y])))) : rAppend (.ref p) [y] H Q :=
  ⟨p, vs, y, rfl, rfl, w.at_, by rw [pLen r]; exact of_decide_eq_true h, k⟩
theorem rd_extend (w : Ow P H0 F H p (.lst vs)) (r : Row A K F vs xs) {b : V} {ys : List α} (s : SeenL A K F H b ys) (h : fits2 xs ys = true) (k : ∀ us, Row A K F us ys → Q .non (upd H p (.lst (vs ++ us)))) : rExtend (.ref p) [b] H Q := by
  obtain ⟨q, us, rfl, h2, r2⟩ := s
  exact ⟨p, q, vs, us, rfl, rfl, w.at_, h2, by rw [pLen r, pLen r2]; exact of_decide_eq_true h, k us r2⟩
theorem Ow.ty (w : Ow P H0 F H p (.lst vs)) : tyV K "list" (.ref p) H := .inl ⟨rfl, vs, SqL.of w.at_⟩
end
theorem inV_str {K : PySem.W.Frag} {F : Hp} {a : Str} : ∀ {vs : List V} {xs : List Str}, Row qS K F vs xs → inV (.str a) vs = decide (a ∈ xs) ∧ vs.all flatV = true
  | _, _, .nil => ⟨rfl, rfl⟩
  | v :: vs, x :: xs, .cons r t => by
    obtain ⟨h1, h2⟩ := inV_str (a := a) t
    cases (show v = .str x from r)
    refine ⟨?_, ?_⟩
    · show (eqV (.str x) (.str a) || inV (.str a) vs) = _
      rw [h1]
      show ((x == a) || decide (a ∈ xs)) = decide (a ∈ x :: xs)
      by_cases e : a = x
      · subst e; simp
      · have e2 : (x == a) = false := beq_eq_false_iff_ne.mpr (Ne.symm e)
        rw [e2]; simp [e]
    · show (flatV (.str x) && vs.all flatV) = true
      rw [h2]; rfl
theorem inV_int {K : PySem.W.Frag} {F : Hp} {a : Int} : ∀ {vs : List V} {xs : List Int}, Row qI K F vs xs → inV (.int a) vs = decide (a ∈ xs) ∧ vs.all flatV = true
  | _, _, .nil => ⟨rfl, rfl⟩
  | v :: vs, x :: xs, .cons r t => by
    obtain ⟨h1, h2⟩ := inV_int (a := a) t
    cases (show v = .int x from r)
    refine ⟨?_, ?_⟩
    · show (eqV (.int x) (.int a) || inV (.int a) vs) = _
      rw [h1]
      show ((x == a) || decide (a ∈ xs)) = decide (a ∈ x :: xs)
      by_cases e : a = x
      · subst e; simp
      · have e2 : (x == a) = false := beq_eq_false_iff_ne.mpr (Ne.symm e)
        rw [e2]; simp [e]
    · show (flatV (.int x) && vs.all flatV) = true
      rw [h2]; rfl
section
variable {K : PySem.W.Frag} {F H : Hp} {v : V} {Q : VK}
theorem rd_inS {xs : List Str} {a : Str} (s : SeenQ qS K F H v xs) (k : Q (.bl (decide (a ∈ xs))) H) : rIn K false (.str a) v H Q := by
  obtain ⟨p, vs, rfl, h1, r⟩ := s.seq
  obtain ⟨e1, e2⟩ := inV_str (a := a) r
  exact ⟨p, vs, rfl, h1, rfl, e2, by show Q (.bl (inV (.str a) vs)) H; rw [e1]; exact k⟩
theorem rd_niS {xs : List Str} {a : Str} (s : SeenQ qS K F H v xs) (k : Q (.bl (!decide (a ∈ xs))) H) : rIn K true (.str a) v H Q := by
  obtain ⟨p, vs, rfl, h1, r⟩ := s.seq
  obtain ⟨e1, e2⟩ := inV_str (a := a) r
  exact ⟨p, vs, rfl, h1, rfl, e2, by show Q (.bl (!inV (.str a) vs)) H; rw [e1]; exact k⟩
theorem rd_inI {xs : List Int} {a : Int} (s : SeenQ qI K F H v xs) (k : Q (.bl (decide (a ∈ xs))) H) : rIn K false (.int a) v H Q := by
  obtain ⟨p, vs, rfl, h1, r⟩ := s.seq
  obtain ⟨e1, e2⟩ := inV_int (a := a) r
  exact ⟨p, vs, rfl, h1, rfl, e2, by show Q (.bl (inV (.int a) vs)) H; rw [e1]; exact k⟩
theorem rd_niI {xs : List Int} {a : Int} (s : SeenQ qI K F H v xs) (k : Q (.bl (!decide (a ∈ xs))) H) : rIn K true (.int a) v H Q := by
  obtain ⟨p, vs, rfl, h1, r⟩ := s.seq
  obtain ⟨e1, e2⟩ := inV_int (a := a) r
  exact ⟨p, vs, rfl, h1, rfl, e2, by show Q (.bl (!inV (.int a) vs)) H; rw [e1]; exact k⟩
end
structure Dat {α : Type} (A : R α) where
  d : α → PyData
  dp : ∀ {K : PySem.W.Frag} {F : Hp} {v : V} {a : α}, A.r K F v a → Dp K F v (d a)
  eq : ∀ a b : α, PyData.eqv (d a) (d b) = true ↔ a = b
mutual
theorem Dp.mono {K : PySem.W.Frag} {F F' : Hp} (e : Same F F') : ∀ {v : V} {d : PyData}, Dp K F v d → Dp K F' v d
  | _, _, .non => .non
  | _, _, .bl b => .bl b
  | _, _, .int i => .int i
  | _, _, .str x => .str x
  | _, _, .lst h a => .lst (Same.seq e h) (DpAll.mono e a)
  | _, _, .tup h a => .tup (same_t e h) (DpAll.mono e a)
theorem DpAll.mono {K : PySem.W.Frag} {F F' : Hp} (e : Same F F') : ∀ {vs : List V} {ds : List PyData}, DpAll K F vs ds → DpAll K F' vs ds
  | _, _, .nil => .nil
  | _, _, .cons h a => .cons (Dp.mono e h) (DpAll.mono e a)
end
def dI : Dat qI := ⟨.int, fun {K F v a} h => by cases (show v = .int a from h); exact .int a, fun a b => by simp [PyData.eqv]⟩
def dB : Dat qB := ⟨.bool, fun {K F v a} h => by cases (show v = .bl a from h); exact .bl a, fun a b => by simp [PyData.eqv]⟩
def dS : Dat qS := ⟨.str, fun {K F v a} h => by cases (show v = .str a from h); exact .str a, fun a b => by simp [PyData.eqv]⟩
theorem dpAll {α : Type} {A : R α} (D : Dat A) {K : PySem.W.Frag} {F : Hp} : ∀ {vs : List V} {xs : List α}, Row A K F vs xs → DpAll K F vs (xs.map D.d)
  | _, _, .nil => .nil
  | _, _, .cons r t => .cons (D.dp r) (dpAll D t)
theorem eqvAll_iff {α : Type} {A : R α} (D : Dat A) : ∀ xs ys : List α, PyData.eqvAll (xs.map D.d) (ys.map D.d) = true ↔ xs = ys
  | [], [] => by simp [PyData.eqvAll]
  | [], _ :: _ => by simp [PyData.eqvAll]
  | _ :: _, [] => by simp [PyData.eqvAll]
  | x :: xs, y :: ys => by
    show (PyData.eqv (D.d x) (D.d y) && PyData.eqvAll (xs.map D.d) (ys.map D.d)) = true ↔ _
    rw [Bool.and_eq_true, D.eq x y, eqvAll_iff D xs ys]
    simp
def dL {α : Type} {A : R α} (D : Dat A) : Dat (qL A) := ⟨fun xs => .list (xs.map D.d), fun {K F v a} h => by
    obtain ⟨p, vs, rfl, h2, h3⟩ := h
    exact .lst (SqL.of h2) (dpAll D h3), fun a b => eqvAll_iff D a b⟩
def dT {α : Type} {A : R α} (D : Dat A) : Dat (qT A) := ⟨fun xs => .tuple (xs.map D.d), fun {K F v a} h => by
    obtain ⟨p, vs, rfl, h2, h3⟩ := h
    exact .tup h2 (dpAll D h3), fun a b => eqvAll_iff D a b⟩
def d2 {α β : Type} {A : R α} {B : R β} (D : Dat A) (E : Dat B) : Dat (q2 A B) := ⟨fun x => .tuple [D.d x.1, E.d x.2], fun {K F v a} h => by
    obtain ⟨p, u, w, rfl, h2, h3, h4⟩ := h
    exact .tup h2 (.cons (D.dp h3) (.cons (E.dp h4) .nil)), fun a b => by
    show (PyData.eqv (D.d a.1) (D.d b.1) && (PyData.eqv (E.d a.2) (E.d b.2) && true)) = true ↔ _
    rw [Bool.and_eq_true, Bool.and_eq_true, D.eq, E.eq]
    obtain ⟨a1, a2⟩ := a
    obtain ⟨b1, b2⟩ := b
    simp⟩
def shp {α : Type} {A : R α} (D : Dat A) (a : α) : Bool := SeqAt.shaped (D.d a)
section
variable {α : Type} {A : R α} {K : PySem.W.Frag} {F H F0 H0 : Hp} {P : Addr → Prop} {v w : V} {a b : α} {Q : VK} [DecidableEq α]
theorem SeenR.dp {α : Type} {A : R α} {K : PySem.W.Frag} {F H : Hp} {v : V} {xs : List α} (S : Same F H) (D : Dat A) (h : SeenR A K F H v xs) : Dp K H v (.list (xs.map D.d)) := let ⟨p, vs, h1, h2, h3⟩ := h; by subst h1; exact .lst h2 (dpAll D (Row.mono S h3))
theorem eqv_dec (D : Dat A) (a b : α) : PyData.eqv (D.d a) (D.d b) = decide (a = b) := by
  by_cases e : a = b
  · rw [(D.eq a b).mpr e, decide_eq_true e]
  · rw [decide_eq_false e]
    cases h : PyData.eqv (D.d a) (D.d b) with
    | false => rfl
    | true => exact absurd ((D.eq a b).mp h) e
def SeenD (D : Dat A) (K : PySem.W.Frag) (H : Hp) (v : V) (a : α) : Prop := Dp K H v (D.d a)
theorem Sx.d (S : Sx P F0 H0 F H) (D : Dat A) (r : A.r K F v a) : SeenD D K H v a := Dp.mono S.sub (D.dp r)
theorem rd_eqD {D : Dat A} (s : SeenD D K H v a) (t : SeenD D K H w b) (h1 : shp D a = true) (h2 : shp D b = true) (k : Q (.bl (decide (a = b))) H) : rEqD K v w H Q :=
  ⟨_, _, s, t, h1, h2, by rw [eqv_dec]; exact k⟩
theorem rd_neD {D : Dat A} (s : SeenD D K H v a) (t : SeenD D K H w b) (h1 : shp D a = true) (h2 : shp D b = true) (k : Q (.bl (!decide (a = b))) H) : rNeD K v w H Q :=
  ⟨_, _, s, t, h1, h2, by rw [eqv_dec]; exact k⟩
end
section
variable {α : Type} {A : R α} {K : PySem.W.Frag} {F H F0 H0 : Hp} {P : Addr → Prop} {p : Addr} {vs : List V} {xs : List α}
theorem Sx.cd {v : V} {xs : List Int} (S : Sx P F0 H0 F H) (r : qC.r K F v xs) : SeenD (dL dI) K H v xs := SeenR.dp S.sub dI (S.c r)
theorem Ow.d (w : Ow P H0 F H p (.lst vs)) (S : Sx P F0 H0 F H) (D : Dat A) (r : Row A K F vs xs) : SeenD (dL D) K H (.ref p) xs := .lst (SqL.of w.at_) (dpAll D (Row.mono S.sub r))
end
end Gl
namespace Gl
open PySem PySem.Spec PyProof.Rows L2
def loopS {α S : Type} (f : α → S → Option S) : List α → S → Option S
  | [], s => some s
  | x :: xs, s => (f x s).bind fun s' => loopS f xs s'
def loopC {α S ρ : Type} (f : α → S → Option (Ctl S ρ)) : List α → S → Option (Ctl S ρ)
  | [], s => some (.nx s)
  | x :: xs, s => (f x s).bind fun c => match c with
    | .nx s' => loopC f xs s'
    | .bk s' => some (.nx s')
    | .rt r => some (.rt r)
def aft {S ρ : Type} (c : Ctl S ρ) (k : S → Option ρ) : Option ρ := match c with
  | .nx s => k s
  | .bk s => k s
  | .rt r => some r
def fuel : Nat := 1000000000
def whileS {S : Type} (c : S → Option (Bool × S)) (f : S → Option S) : Nat → S → Option S
  | 0, _ => none
  | n + 1, s => (c s).bind fun b => if b.1 = true then (f b.2).bind fun s' => whileS c f n s' else some b.2
structure Feeds (J : It) (n : Nat) (G : Hp → Prop) (it : Nat → V → Prop) : Prop where
  go : ∀ i H, i < n → G H → J.go i H
  stop : ∀ H, G H → J.stop n H
  yld : ∀ i H x H', i < n → G H → J.yld i H x H' → H' = H ∧ it i x
theorem feedsL {K : PySem.W.Frag} {a : Addr} {vs : List V} : Feeds (Itl K a) vs.length (fun H => SqL K H a vs) (fun i x => vs[i]? = some x) :=
  ⟨fun i H h q => ⟨vs, vs[i], q, by simp [h]⟩, fun H q => ⟨vs, q, Nat.le_refl _⟩, fun i H x H' h q y => ⟨y.1, y.2 vs q⟩⟩
theorem feedsT {K : PySem.W.Frag} {a : Addr} {vs : List V} : Feeds (Itt K a) vs.length (fun H => SqT K H a vs) (fun i x => vs[i]? = some x) :=
  ⟨fun i H h q => ⟨vs, vs[i], q, by simp [h]⟩, fun H q => ⟨vs, q, Nat.le_refl _⟩, fun i H x H' h q y => ⟨y.1, y.2 vs q⟩⟩
theorem feedsS {z : Str} : Feeds (Its z) z.cps.size (fun _ => True) (fun i x => ∃ c, z.cps[i]? = some c ∧ x = .str ⟨#[c]⟩) :=
  ⟨fun i H h _ => h, fun H _ => Nat.le_refl _, fun i H x H' h _ y => y⟩
structure Typed {α : Type} (A : R α) (K : PySem.W.Frag) (F : Hp) (n : Nat) (it : Nat → V → Prop) (xs : List α) : Prop where
  len : xs.length = n
  at_ : ∀ i x, it i x → ∃ a, xs[i]? = some a ∧ A.r K F x a
theorem typedRow {α : Type} {A : R α} {K : PySem.W.Frag} {F : Hp} {vs : List V} {xs : List α} (r : Row A K F vs xs) : Typed A K F vs.length (fun i x => vs[i]? = some x) xs :=
  ⟨(pLen r).symm, fun i x h => pGetL r h⟩
theorem typedR {K : PySem.W.Frag} {F : Hp} {a b : Int} : Typed qI K F (b - a).toNat (fun i x => i < (b - a).toNat ∧ x = .int (a + (i : Nat))) (rng a b) :=
  ⟨by unfold rng; simp, fun i x h => ⟨a + (i : Nat), by unfold rng; simp [h.1], h.2⟩⟩
theorem feedsRg {a b : Int} : Feeds (Itr a (b - a).toNat) (b - a).toNat (fun _ => True) (fun i x => i < (b - a).toNat ∧ x = .int (a + (i : Nat))) :=
  ⟨fun i H h _ => h, fun H _ => Nat.le_refl _, fun i H x H' h _ y => ⟨y.1, h, y.2⟩⟩
theorem typedS {K : PySem.W.Frag} {F : Hp} {z : Str} : Typed qS K F z.cps.size (fun i x => ∃ c, z.cps[i]? = some c ∧ x = .str ⟨#[c]⟩) (sgns z) :=
  ⟨by unfold sgns; simp, fun i x h => by
    obtain ⟨c, h1, h2⟩ := h
    exact ⟨⟨#[c]⟩, by unfold sgns; simp [h1], h2⟩⟩

abbrev ForG (J : It) (g : TG) (tb : TS) (D : Ends) (σ : L2.St) (H : Hp) : Prop :=
  ∃ W : Nat → Nat → L2.St → Hp → Prop, (∃ m, W 0 m σ H) ∧ ∀ i m σ H, W i m σ H →
    (J.stop i H ∧ D.nx σ H) ∨ (J.go i H ∧ ∃ N : L2.St → Hp → Prop, (∀ σ' H', N σ' H' → ∃ m', m' < m ∧ W (i + 1) m' σ' H') ∧ ∀ x H', J.yld i H x H' → g x σ H' fun σ2 H2 => tb { D with nx := N, ct := N, bk := D.nx } σ2 H2)
section
variable {J : It} {n : Nat} {G : Hp → Prop} {it : Nat → V → Prop} {α S ρ : Type} {A : R α} {K : PySem.W.Frag} {F : Hp} {xs : List α} {g : TG} {tb : TS} {σ : L2.St} {H : Hp} {Nx Bx Cx : L2.St → Hp → Prop} {Rx : VK}
theorem loopS_at {f : α → S → Option S} {i : Nat} {a : α} {s s1 : S} (h : loopS f (xs.drop i) s = some s1) (ha : xs[i]? = some a) : ∃ s', f a s = some s' ∧ loopS f (xs.drop (i + 1)) s' = some s1 := by
  have hi : i < xs.length := (List.getElem?_eq_some_iff.mp ha).1
  have e : xs.drop i = a :: xs.drop (i + 1) := by
    rw [List.drop_eq_getElem_cons hi]
    rw [(List.getElem?_eq_some_iff.mp ha).2]
  rw [e] at h
  exact bd_some h
theorem loopC_at {f : α → S → Option (Ctl S ρ)} {i : Nat} {a : α} {s : S} {c1 : Ctl S ρ} (h : loopC f (xs.drop i) s = some c1) (ha : xs[i]? = some a) : ∃ c, f a s = some c ∧ (match c with
    | .nx s' => loopC f (xs.drop (i + 1)) s'
    | .bk s' => some (.nx s')
    | .rt r => some (.rt r)) = some c1 := by
  have hi : i < xs.length := (List.getElem?_eq_some_iff.mp ha).1
  have e : xs.drop i = a :: xs.drop (i + 1) := by
    rw [List.drop_eq_getElem_cons hi]
    rw [(List.getElem?_eq_some_iff.mp ha).2]
  rw [e] at h
  exact bd_some h
theorem rd_forS (Fd : Feeds J n G it) (Ty : Typed A K F n it xs) {f : α → S → Option S} {s0 s1 : S} (hm : loopS f xs s0 = some s1) (Iv : S → L2.St → Hp → Prop) (hG : ∀ s σ H, Iv s σ H → G H) (h0 : Iv s0 σ H)
    (turn : ∀ (a : α) (x : V) (s s' : S) (σ : L2.St) (H : Hp), A.r K F x a → Iv s σ H → f a s = some s' → g x σ H fun σ2 H2 => tb ⟨Iv s', Rx, Nx, Iv s'⟩ σ2 H2)
    (done : ∀ σ H, Iv s1 σ H → Nx σ H) : ForG J g tb ⟨Nx, Rx, Bx, Cx⟩ σ H := by
  refine ⟨fun i m σ H => m = n - i ∧ i ≤ n ∧ ∃ s, Iv s σ H ∧ loopS f (xs.drop i) s = some s1, ⟨n, by simp, Nat.zero_le _, s0, h0, hm⟩, ?_⟩
  rintro i m σ H ⟨rfl, hi, s, iv, hl⟩
  by_cases hlt : i < n
  · obtain ⟨a, ha⟩ : ∃ a, xs[i]? = some a := ⟨xs[i]'(by rw [Ty.len]; exact hlt), by simp [Ty.len, hlt]⟩
    obtain ⟨s', e1, e2⟩ := loopS_at hl ha
    refine .inr ⟨Fd.go i H hlt (hG s σ H iv), Iv s', fun σ' H' p' => ⟨n - (i + 1), by omega, rfl, hlt, s', p', e2⟩, fun x H' y => ?_⟩
    obtain ⟨rfl, hx⟩ := Fd.yld i H x H' hlt (hG s σ H iv) y
    obtain ⟨a', ha', r⟩ := Ty.at_ i x hx
    rw [ha] at ha'
    cases ha'
    exact turn a x s s' σ H' r iv e1
  · have e : i = n := by omega
    subst e
    rw [← Ty.len, List.drop_length] at hl
    cases hl
    exact .inl ⟨Fd.stop H (hG _ σ H iv), done σ H iv⟩
theorem rd_forC (Fd : Feeds J n G it) (Ty : Typed A K F n it xs) {f : α → S → Option (Ctl S ρ)} {s0 : S} {c1 : Ctl S ρ} (hm : loopC f xs s0 = some c1) (Iv : S → L2.St → Hp → Prop) (hG : ∀ s σ H, Iv s σ H → G H) (h0 : Iv s0 σ H)
    (turn : ∀ (a : α) (x : V) (s : S) (c : Ctl S ρ) (σ : L2.St) (H : Hp), A.r K F x a → Iv s σ H → f a s = some c → (∀ s' σ' H', c = .bk s' → Iv s' σ' H' → Nx σ' H') → (∀ r, c = .rt r → c1 = .rt r) →
      g x σ H fun σ2 H2 => tb ⟨fun σ' H' => ∃ s', c = .nx s' ∧ Iv s' σ' H', Rx, Nx, fun σ' H' => ∃ s', c = .nx s' ∧ Iv s' σ' H'⟩ σ2 H2)
    (done : ∀ s σ H, c1 = .nx s → Iv s σ H → Nx σ H) : ForG J g tb ⟨Nx, Rx, Bx, Cx⟩ σ H := by
  refine ⟨fun i m σ H => m = n - i ∧ i ≤ n ∧ ∃ s, Iv s σ H ∧ loopC f (xs.drop i) s = some c1, ⟨n, by simp, Nat.zero_le _, s0, h0, hm⟩, ?_⟩
  rintro i m σ H ⟨rfl, hi, s, iv, hl⟩
  by_cases hlt : i < n
  · obtain ⟨a, ha⟩ : ∃ a, xs[i]? = some a := ⟨xs[i]'(by rw [Ty.len]; exact hlt), by simp [Ty.len, hlt]⟩
    obtain ⟨c, e1, e2⟩ := loopC_at hl ha
    refine .inr ⟨Fd.go i H hlt (hG s σ H iv), fun σ' H' => ∃ s', c = .nx s' ∧ Iv s' σ' H', fun σ' H' p' => ?_, fun x H' y => ?_⟩
    · obtain ⟨s', rfl, p'⟩ := p'
      exact ⟨n - (i + 1), by omega, rfl, hlt, s', p', e2⟩
    · obtain ⟨rfl, hx⟩ := Fd.yld i H x H' hlt (hG s σ H iv) y
      obtain ⟨a', ha', r⟩ := Ty.at_ i x hx
      rw [ha] at ha'
      cases ha'
      refine turn a x s c σ H' r iv e1 (fun s' σ' H' e p => ?_) fun r e => ?_
      · subst e
        exact done s' σ' H' (Option.some.inj e2).symm p
      · subst e
        exact (Option.some.inj e2).symm
  · have e : i = n := by omega
    subst e
    rw [← Ty.len, List.drop_length] at hl
    exact .inl ⟨Fd.stop H (hG _ σ H iv), done s σ H (Option.some.inj hl).symm iv⟩
end
section
variable {S ρ : Type} {c : TT} {tb : TS} {σ : L2.St} {H : Hp} {Nx Bx Cx : L2.St → Hp → Prop} {Rx : VK}
theorem rd_whileS {cm : S → Option (Bool × S)} {f : S → Option S} {N : Nat} {s0 s1 : S} (hm : whileS cm f N s0 = some s1) (Iv : S → L2.St → Hp → Prop) (h0 : Iv s0 σ H)
    (turn : ∀ (s : S) (b : Bool × S) (σ : L2.St) (H : Hp) (T : L2.St → Hp → Prop) (E : L2.St → Hp → Prop), Iv s σ H → cm s = some b → (∀ σ' H', b.1 = true → Iv b.2 σ' H' → T σ' H') → (∀ σ' H', b.1 = false → Iv b.2 σ' H' → E σ' H') → c σ H fun b H1 => if b = true then T σ H1 else E σ H1)
    (body : ∀ (s s' : S) (σ : L2.St) (H : Hp), Iv s σ H → f s = some s' → tb ⟨Iv s', Rx, Nx, Iv s'⟩ σ H)
    (done : ∀ σ H, Iv s1 σ H → Nx σ H) : tWhile c tb ⟨Nx, Rx, Bx, Cx⟩ σ H := by
  refine ⟨fun m σ H => ∃ s, Iv s σ H ∧ whileS cm f m s = some s1, ⟨N, s0, h0, hm⟩, ?_⟩
  rintro m σ H ⟨s, iv, h⟩
  cases m with
  | zero => cases h
  | succ m =>
    obtain ⟨b, e1, e2⟩ := bd_some h
    refine turn s b σ H (fun σ H1 => ∃ N : L2.St → Hp → Prop, (∀ σ' H', N σ' H' → ∃ m', m' < m + 1 ∧ ∃ s, Iv s σ' H' ∧ whileS cm f m' s = some s1) ∧ tb ⟨N, Rx, Nx, N⟩ σ H1) (fun σ H1 => Nx σ H1) iv e1 (fun σ' H' hb iv' => ?_) fun σ' H' hb iv' => ?_
    · rw [hb] at e2
      obtain ⟨s', e3, e4⟩ := bd_some (show ((f b.2).bind fun s' => whileS cm f m s') = some s1 from e2)
      exact ⟨Iv s', fun σ2 H2 p => ⟨m, Nat.lt_succ_self _, s', p, e4⟩, body b.2 s' σ' H' iv' e3⟩
    · rw [hb] at e2
      cases (show some b.2 = some s1 from e2)
      exact done σ' H' iv'
end
def fitsE {α : Type} (a : List α) : Bool := decide (a.length ≤ sizeLine)
def comp {α β S : Type} (f : α → S → Option (Option β × S)) : List α → S → Option (List β × S)
  | [], s => some ([], s)
  | x :: xs, s => (f x s).bind fun o => (comp f xs o.2).bind fun r => some (match o.1 with
    | some y => (y :: r.1, r.2)
    | none => r)
abbrev LcG (J : It) (g : TG) (tt : TT) (te : TE) (vs : List Nat) (σ : L2.St) (D : Addr) (Q : VK) (H1 : Hp) : Prop :=
  ∃ W : Nat → Nat → Hp → Prop, (∃ m, W 0 m (upd H1 D (.lst []))) ∧ ∀ i m H, W i m H →
  (J.stop i H ∧ Q (.ref D) H) ∨ (J.go i H ∧ ∃ Nx : Hp → Prop, (∀ H', Nx H' → ∃ m', m' < m ∧ W (i + 1) m' H') ∧ ∀ x H', J.yld i H x H' → g x (wipe σ vs) H' fun σ2 H2 => wipe σ2 vs = wipe σ vs ∧ tt σ2 H2 fun b H3 =>
    if b = true then te σ2 H3 fun y H4 => ∃ acc, H4 D = some (.lst acc) ∧ acc.length < sizeLine ∧ Nx (upd H4 D (.lst (acc ++ [y]))) else Nx H3)
section
variable {J : It} {n : Nat} {G : Hp → Prop} {it : Nat → V → Prop} {α β S : Type} {A : R α} {B : R β} {K : PySem.W.Frag} {F1 H1 : Hp} {xs : List α} {g : TG} {tt : TT} {te : TE} {vs : List Nat} {σ : L2.St} {Q : VK}
theorem comp_at {f : α → S → Option (Option β × S)} {i : Nat} {a : α} {s : S} {r : List β × S} (h : comp f (xs.drop i) s = some r) (ha : xs[i]? = some a) : ∃ o r', f a s = some o ∧ comp f (xs.drop (i + 1)) o.2 = some r' ∧ r = (match o.1 with
    | some y => (y :: r'.1, r'.2)
    | none => r') := by
  have hi : i < xs.length := (List.getElem?_eq_some_iff.mp ha).1
  have e : xs.drop i = a :: xs.drop (i + 1) := by
    rw [List.drop_eq_getElem_cons hi]
    rw [(List.getElem?_eq_some_iff.mp ha).2]
  rw [e] at h
  obtain ⟨o, e1, h2⟩ := bd_some h
  obtain ⟨r', e2, h3⟩ := bd_some h2
  exact ⟨o, r', e1, e2, (Option.some.inj h3).symm⟩
theorem rd_comp (Fd : Feeds J n G it) (Ty : Typed A K F1 n it xs) {f : α → S → Option (Option β × S)} {s0 : S} {r : List β × S} (hm : comp f xs s0 = some r) (hz : fitsE xs = true) {Pc : Addr → Prop} (hlv : ∀ a, Pc a → H1 a ≠ none) (hsub : Same F1 H1) (Ex : S → Hp → Hp → Prop)
    (hG : ∀ s F H, Sx Pc F1 H1 F H → Ex s F H → G H) (h0 : Ex s0 F1 H1) (hEx : ∀ s F H q o, Ex s F H → H1 q = none → H q = none → Ex s F (upd H q o)) (hEp : ∀ s F H q u o, Ex s F H → H1 q = none → H q = some u → Ex s F (upd H q o))
    (turn : ∀ (a : α) (x : V) (s : S) (o : Option β × S) (F H : Hp) (D : Addr) (acc : List V), A.r K F1 x a → Sx Pc F1 H1 F H → Ex s F H → Ow Pc H1 F H D (.lst acc) → H1 D = none → f a s = some o →
      ∀ (E : Hp → Prop) (N : V → Hp → Prop), (∀ y b F' H', o.1 = some b → Sx Pc F H F' H' → B.r K F' y b → Ex o.2 F' H' → N y H') → (∀ F' H', o.1 = none → Sx Pc F H F' H' → Ex o.2 F' H' → E H') →
      g x (wipe σ vs) H fun σ2 H2 => wipe σ2 vs = wipe σ vs ∧ tt σ2 H2 fun b H3 => if b = true then te σ2 H3 N else E H3)
    (done : ∀ D us F H, H1 D = none → Sx Pc F1 H1 F H → Ex r.2 F H → Ow Pc H1 F H D (.lst us) → Row B K F us r.1 → Q (.ref D) H) : ∀ D, H1 D = none → LcG J g tt te vs σ D Q H1 := by
  intro D hD
  refine ⟨fun i m H => m = n - i ∧ i ≤ n ∧ ∃ s F acc ys r', Sx Pc F1 H1 F H ∧ Ex s F H ∧ Ow Pc H1 F H D (.lst acc) ∧ Row B K F acc ys ∧ acc.length ≤ i ∧ comp f (xs.drop i) s = some r' ∧ r = (ys ++ r'.1, r'.2), ⟨n, by simp, Nat.zero_le _, s0, F1, [], [], r, ?_, ?_, ?_, .nil, Nat.le_refl _, hm, rfl⟩, ?_⟩
  · exact (Sx.refl hsub hlv).temp hD
  · exact hEx _ _ _ _ _ h0 hD hD
  · exact (Sx.refl hsub hlv).own hD
  rintro i m H ⟨rfl, hi, s, F, acc, ys, r', S, ex, w, row, hal, hl, hr⟩
  by_cases hlt : i < n
  · obtain ⟨a, ha⟩ : ∃ a, xs[i]? = some a := ⟨xs[i]'(by rw [Ty.len]; exact hlt), by simp [Ty.len, hlt]⟩
    obtain ⟨o, r2, e1, e2, e3⟩ := comp_at hl ha
    refine .inr ⟨Fd.go i H hlt (hG s F H S ex), fun H' => ∃ s F acc ys r', Sx Pc F1 H1 F H' ∧ Ex s F H' ∧ Ow Pc H1 F H' D (.lst acc) ∧ Row B K F acc ys ∧ acc.length ≤ i + 1 ∧ comp f (xs.drop (i + 1)) s = some r' ∧ r = (ys ++ r'.1, r'.2), fun H' p' => ⟨n - (i + 1), by omega, rfl, hlt, p'⟩, fun x H' y => ?_⟩
    obtain ⟨rfl, hx⟩ := Fd.yld i H x H' hlt (hG s F H S ex) y
    obtain ⟨a', ha', ra⟩ := Ty.at_ i x hx
    rw [ha] at ha'
    cases ha'
    have nD : ∀ F' H'', Sx Pc F H' F' H'' → Ow Pc H1 F' H'' D (.lst acc) := fun F' H'' c => w.call c fun z => hlv D z hD
    have hsz : acc.length < sizeLine := by
      have := of_decide_eq_true hz
      rw [Ty.len] at this
      omega
    refine turn a x s o F H' D acc ra S ex w hD e1 _ _ (fun y b F' H'' ho c rb ex' => ?_) fun F' H'' ho c ex' => ?_
    · have w' := nD F' H'' c
      have S' : Sx Pc F1 H1 F' H'' := S.call c fun a z => .inl z
      refine ⟨acc, w'.at_, hsz, o.2, F', acc ++ [y], ys ++ [b], r2, S'.put w', hEp _ _ _ _ _ _ ex' hD w'.at_, w'.put, (Row.mono c.le row).snoc rb, by simp; omega, e2, ?_⟩
      rw [hr, e3, ho]
      simp
    · have w' := nD F' H'' c
      have S' : Sx Pc F1 H1 F' H'' := S.call c fun a z => .inl z
      refine ⟨o.2, F', acc, ys, r2, S', ex', w', Row.mono c.le row, by omega, e2, ?_⟩
      rw [hr, e3, ho]
  · have e : i = n := by omega
    subst e
    rw [← Ty.len, List.drop_length] at hl
    cases hl
    refine .inl ⟨Fd.stop H (hG _ F H S ex), ?_⟩
    rw [hr] at done
    exact done D acc F H hD S ex w (by simpa using row)
end
section
variable {P : Addr → Prop} {F0 H0 F H : Hp} {Q : VK} {α : Type} {A : R α} {K : PySem.W.Frag}
theorem al {o : HO} (S : Sx P F0 H0 F H) (k : ∀ p H', H p = none → Sx P0 F H F H' → Ow P H0 F H' p o → Q (.ref p) H') : nK Q H o :=
  fun p hp => k p _ hp ((Sx.refl0 S.sub).temp hp) (S.own hp)
theorem alF {o : HO} (S : Sx P F0 H0 F H) (k : ∀ p F' H', Sx P0 F H F' H' → F' p = some o → Q (.ref p) H') : nK Q H o :=
  fun p hp => k p _ _ ((Sx.refl0 S.sub).alloc hp) upd_same
theorem alT {vs : List V} {xs : List α} (S : Sx P F0 H0 F H) (r : Row A K F vs xs) (k : ∀ v F' H', Sx P0 F H F' H' → (qT A).r K F' v xs → Q v H') : nK Q H (.tup vs) :=
  alF S fun p F' H' c h => k _ F' H' c ⟨p, vs, rfl, .inl (.inl h), Row.mono c.le r⟩
theorem alL {vs : List V} {xs : List α} (S : Sx P F0 H0 F H) (r : Row A K F vs xs) (k : ∀ v F' H', Sx P0 F H F' H' → (qL A).r K F' v xs → Q v H') : nK Q H (.lst vs) :=
  alF S fun p F' H' c h => k _ F' H' c ⟨p, vs, rfl, h, Row.mono c.le r⟩
theorem alL' {xs : List α} (S : Sx P F0 H0 F H) (k : ∀ v F' H', Sx P0 F H F' H' → (qL A).r K F' v xs → Q v H') : nL A K F Q H xs :=
  fun p us hp r => alL S r k p hp
theorem alT' {xs : List α} (S : Sx P F0 H0 F H) (k : ∀ v F' H', Sx P0 F H F' H' → (qT A).r K F' v xs → Q v H') : nT A K F Q H xs :=
  fun p us hp r => alT S r k p hp
variable {p : Addr} {vs : List V} {xs : List α}
theorem ap (S : Sx P F0 H0 F H) (w : Ow P H0 F H p (.lst vs)) (r : Row A K F vs xs) {y : V} (h : fits xs = true) (k : ∀ H', Sx (fun a => a = p) F H F H' → Ow P H0 F H' p (.lst (vs ++ [y])) → Q .non H') : rAppend (.ref p) [y] H Q :=
  rd_app w r h (k _ ((Sx.refl S.sub fun a z => by rw [z, w.at_]; exact fun h => nomatch h).put w.arg) w.put)
theorem ex' (S : Sx P F0 H0 F H) (w : Ow P H0 F H p (.lst vs)) (r : Row A K F vs xs) {b : V} {ys : List α} (s : SeenL A K F H b ys) (h : fits2 xs ys = true) (k : ∀ us H', Sx (fun a => a = p) F H F H' → Ow P H0 F H' p (.lst (vs ++ us)) → Row A K F (vs ++ us) (xs ++ ys) → Q .non H') : rExtend (.ref p) [b] H Q :=
  rd_extend w r s h fun us r2 => k us _ ((Sx.refl S.sub fun a z => by rw [z, w.at_]; exact fun h => nomatch h).put w.arg) w.put (pApp r r2)
theorem fz (S : Sx P F0 H0 F H) (w : Ow P H0 F H p (.lst vs)) (h0 : H0 p = none) (r : Row A K F vs xs) : ∃ F', Sx P F0 H0 F' H ∧ Same F F' ∧ (qL A).r K F' (.ref p) xs ∧ F' p ≠ none ∧ ∀ q, q ≠ p → F' q = F q :=
  ⟨upd F p (.lst vs), S.freeze w h0, w.leF, ⟨p, vs, rfl, upd_same, Row.mono w.leF r⟩, by (rw [upd_same]; exact (fun h => nomatch h)), fun q hq => upd_ne hq⟩
theorem Ow.fzO {F' : Hp} {o : HO} {q : Addr} (w : Ow P H0 F H q o) (n : q ≠ p) (e : ∀ q, q ≠ p → F' q = F q) : Ow P H0 F' H q o := ⟨by rw [e q n]; exact w.fr, w.at_, w.mine⟩
end
end Gl
namespace Gl
open PySem PySem.Spec PyProof.Rows L2
def fdDefault : FuncData := PySem.W.fnOf "" "" { posonlyargs := [], args := [], vararg := none, kwonlyargs := [], kw_defaults := [], kwarg := none, defaults := [] } [] { kind := .function, names := [], isGenerator := false, isCoroutine := false } .none .none .none .none none .none .none
def fdOf (K : PySem.W.Frag) (p : Str × Option Str) : FuncData := match K.lookup (He.fAd K p) with
  | some ⟨_, _, .func fd, _⟩ => fd
  | _ => fdDefault
abbrev FnD' (K : PySem.W.Frag) (p : Str × Option Str) (x q : Str) (st : Stmt) : Prop := FunD K x q (defArgs st) (defBody st) (defScope st) [] [] (He.fAd K p) (fdOf K p)
theorem fdOf_eq {K : PySem.W.Frag} {p : Str × Option Str} {x q : Str} {ps : Arguments} {body : List Stmt} {sc : Scope} {dvs : List V} {kws : List (Str × V)} {fd : FuncData} (F : FunD K x q ps body sc dvs kws (He.fAd K p) fd) : fd = fdOf K p := by
  obtain ⟨oc, od, dV, kV, doc, pm, an, cdv, ct, osl, e, lk, _⟩ := F.ex
  unfold fdOf
  rw [lk]
theorem fd_of {fa : List He.Fa} {fn : List He.DefD} {K : PySem.W.Frag} (c : He.SaysD fa fn K) (i : Nat) {d : He.DefD} (h : fn[i]? = some d := by rfl) : FunD K d.name d.qual d.params d.body d.scope (d.dvs K) (d.kws K) (He.fAd K d.at_) (fdOf K d.at_) := by
  obtain ⟨fd, F⟩ := c.def_ i h
  have e := fdOf_eq F
  subst e
  exact F
section
variable {P : Addr → Prop} {F0 H0 F H : Hp} {Q : VK} {K : PySem.W.Frag} {p : Addr} {a b c : V}
theorem pool0 (w : Ow P H0 F H p (.lst [a, b])) (k : Q a H) : rIxL K (.ref p) (.int 0) H Q := ⟨p, [a, b], 0, a, rfl, rfl, SqL.of w.at_, rfl, k⟩
theorem pool1 (w : Ow P H0 F H p (.lst [a, b])) (k : Q b H) : rIxL K (.ref p) (.int 1) H Q := ⟨p, [a, b], 1, b, rfl, rfl, SqL.of w.at_, rfl, k⟩
theorem putS (S : Sx P F0 H0 F H) {o u : HO} (w : Ow P H0 F H p o) : Sx (fun a => a = p) F H F (upd H p u) := (Sx.refl S.sub fun a z => by rw [z, w.at_]; exact fun h => nomatch h).put w.arg
theorem pset0 {R : Hp → Prop} (S : Sx P F0 H0 F H) (w : Ow P H0 F H p (.lst [a, b])) (k : ∀ H', Sx (fun a => a = p) F H F H' → Ow P H0 F H' p (.lst [c, b]) → R H') : rSetL (.ref p) (.int 0) c H R := ⟨p, [a, b], 0, 0, rfl, rfl, w.at_, rfl, k _ (putS S w) w.put⟩
theorem pset1 {R : Hp → Prop} (S : Sx P F0 H0 F H) (w : Ow P H0 F H p (.lst [a, b])) (k : ∀ H', Sx (fun a => a = p) F H F H' → Ow P H0 F H' p (.lst [a, c]) → R H') : rSetL (.ref p) (.int 1) c H R := ⟨p, [a, b], 1, 1, rfl, rfl, w.at_, rfl, k _ (putS S w) w.put⟩
end
end Gl
namespace Gl
open PySem PySem.Spec PyProof.Rows L2
section
variable {σ : L2.St} {H : Hp} {Q : VK} {v : V} {i j : Int} {ta tb tc te : TE} {t u : TT} {r : R2} {D : Ends} {tr : TA} {K : PySem.W.Frag} {b : Bool}
theorem rd_v {i : Nat} (h : σ[i]? = some (some v)) (k : Q v H) : tVar i σ H Q := ⟨v, h, k⟩
theorem rd_c (k : Q v H) : tC v σ H Q := k
theorem rd_op (k : ta σ H fun x H1 => tb σ H1 fun y H2 => r x y H2 Q) : tOp r ta tb σ H Q := k
theorem rd_un {r : V → Hp → VK → Prop} (k : ta σ H fun x H1 => r x H1 Q) : tUn r ta σ H Q := k
theorem rd_I0 {g : Int → Int → V} (k : Q (g i j) H) : rI0 g (.int i) (.int j) H Q := ⟨i, j, rfl, rfl, k⟩
theorem rd_I {C : Int → Int → Prop} {g : Int → Int → V} (c : C i j) (k : Q (g i j) H) : rI C g (.int i) (.int j) H Q := ⟨i, j, rfl, rfl, c, k⟩
theorem rd_U {g : Int → V} (k : Q (g i) H) : rU g (.int i) H Q := ⟨i, rfl, k⟩
theorem rd_S0 {g : Str → Str → V} {x y : Str} (k : Q (g x y) H) : rS0 g (.str x) (.str y) H Q := ⟨x, y, rfl, rfl, k⟩
theorem rd_B0 {g : Bool → Bool → V} {x y : Bool} (k : Q (g x y) H) : rB0 g (.bl x) (.bl y) H Q := ⟨x, y, rfl, rfl, k⟩
def rCatS : R2 := fun x y H Q => ∃ i j, x = .str i ∧ y = .str j ∧ i.length + j.length ≤ sizeLine ∧ Q (.str (i ++ j)) H
theorem op_catS {X : Cx} : OpR X (binaryOp .Add) rCatS := op_add_str
theorem rd_catS {x y : Str} (h : catOk x y = true) (k : Q (.str (x ++ y)) H) : rCatS (.str x) (.str y) H Q := ⟨x, y, rfl, rfl, catOk_of h, k⟩
def rInS : R2 := fun x y H Q => ∃ i j, x = .str i ∧ y = .str j ∧ Q (.bl (inS i j)) H
def rNiS : R2 := fun x y H Q => ∃ i j, x = .str i ∧ y = .str j ∧ Q (.bl (!inS i j)) H
theorem op_inS {X : Cx} : OpR X (compareOp .In) rInS := op_in_str
theorem op_niS {X : Cx} : OpR X (compareOp .NotIn) rNiS := op_notin_str
theorem rd_inSS {x y : Str} (k : Q (.bl (inS x y)) H) : rInS (.str x) (.str y) H Q := ⟨x, y, rfl, rfl, k⟩
theorem rd_niSS {x y : Str} (k : Q (.bl (!inS x y)) H) : rNiS (.str x) (.str y) H Q := ⟨x, y, rfl, rfl, k⟩
theorem rd_ixS {x z : Str} (h : ixS x i = some z) (k : Q (.str z) H) : rIxS (.str x) (.int i) H Q := by
  obtain ⟨c, h1, h2, rfl⟩ := ixS_some h
  exact ⟨x, i, c, rfl, rfl, h1, h2, k⟩
theorem rd_slS {z : Str} {lo hi : Option Int} (h : fitsS z = true) (k : Q (.str (cutS z lo hi)) H) : rSlS (.str z) lo hi H Q := ⟨z, rfl, fitsS_of h, k⟩
variable {QB : Bool → Hp → Prop}
def bK (QB : Bool → Hp → Prop) : VK := fun x H => ∃ k, x = .bl k ∧ QB k H
theorem rd_test (k : te σ H (bK QB)) : tTest te σ H QB := k
theorem rd_tB (k : te σ H (bK QB)) : tB te σ H QB := k
theorem rd_b (k : QB b H) : bK QB (.bl b) H := ⟨b, rfl, k⟩
theorem rd_and (k : t σ H fun c H1 => if c = true then u σ H1 QB else QB false H1) : tAnd t u σ H QB := k
theorem rd_or (k : t σ H fun c H1 => if c = true then QB true H1 else u σ H1 QB) : tOr t u σ H QB := k
theorem rd_not (k : t σ H fun c H1 => QB (!c) H1) : tNot t σ H QB := k
theorem rd_andV (k : ta σ H (bK fun c H1 => if c = true then tb σ H1 Q else Q (.bl false) H1)) : tAndV ta tb σ H Q := k
theorem rd_orV (k : ta σ H (bK fun c H1 => if c = true then Q (.bl true) H1 else tb σ H1 Q)) : tOrV ta tb σ H Q := k
theorem rd_ifE (k : t σ H fun c H1 => if c = true then ta σ H1 Q else tb σ H1 Q) : tIf t ta tb σ H Q := k
theorem rd_yes (k : QB true H) : tYes σ H QB := k
variable {QA : List V → Hp → Prop}
theorem rd_nil (k : QA [] H) : tNil σ H QA := k
theorem rd_cons (k : te σ H fun x H1 => tr σ H1 fun xs H2 => QA (x :: xs) H2) : tCons te tr σ H QA := k
theorem rd_call {sp : Sp} {dvs : List V} {E : XK} (k : tr σ H fun vs H1 => sp (vs ++ dvs) H1 Q E) : tCall sp dvs E tr σ H Q := k
theorem rd_cb {r : List V → Hp → VK → Prop} (k : tr σ H fun xs H1 => r xs H1 Q) : tCB r tr σ H Q := k
def lK (Q : VK) : List V → Hp → Prop := fun xs H1 => xs.length ≤ sizeLine ∧ ∀ p, H1 p = none → Q (.ref p) (upd H1 p (.lst xs))
def uK (Q : VK) : List V → Hp → Prop := fun xs H1 => xs.length ≤ sizeLine ∧ ∀ p, H1 p = none → Q (.ref p) (upd H1 p (.tup xs))
theorem rd_lst (k : tr σ H (lK Q)) : tLst tr σ H Q := k
theorem rd_lK {xs : List V} (h : Nat.ble xs.length 1000 = true) (k : nK Q H (.lst xs)) : lK Q xs H := ⟨Nat.le_trans (Nat.le_of_ble_eq_true h) (by decide), k⟩
theorem rd_uK {xs : List V} (h : Nat.ble xs.length 1000 = true) (k : nK Q H (.tup xs)) : uK Q xs H := ⟨Nat.le_trans (Nat.le_of_ble_eq_true h) (by decide), k⟩
theorem rd_tup (k : tr σ H (uK Q)) : tTup tr σ H Q := k
theorem rd_bm {T : String} {r : V → List V → Hp → VK → Prop} (k : te σ H fun x H1 => tyV K T x H1 ∧ tr σ H1 fun xs H2 => r x xs H2 Q) : tBM K T r te tr σ H Q := k
theorem rd_ty {A B : Prop} (h : A) (k : B) : A ∧ B := ⟨h, k⟩
theorem rd_thn {k' : V → Hp → VK → Prop} (k : te σ H fun x H1 => k' x H1 Q) : tThen te k' σ H Q := k
variable {QO : Option Int → Hp → Prop}
theorem rd_sl {r : V → Option Int → Option Int → Hp → VK → Prop} {tl th : TO} (k : te σ H fun x H1 => tl σ H1 fun l H2 => th σ H2 fun u H3 => r x l u H3 Q) : tSl r te tl th σ H Q := k
theorem rd_np (k : QO none H) : tNoPart σ H QO := k
def iK (QO : Option Int → Hp → Prop) : VK := fun x H => ∃ i, x = .int i ∧ QO (some i) H
theorem rd_pt (k : te σ H (iK QO)) : tPart te σ H QO := k
theorem rd_i (k : QO (some i) H) : iK QO (.int i) H := ⟨i, rfl, k⟩
def rInt1 : List V → Hp → VK → Prop := fun xs H Q => (∃ i, xs = [.int i] ∧ Q (.int i) H) ∨ ∃ k, xs = [.bl k] ∧ Q (.int (if k then 1 else 0)) H
theorem cr_int {X : Cx} : CallR X (.type "int") rInt1 := call_int1
theorem rd_intI (k : Q (.int i) H) : rInt1 [.int i] H Q := .inl ⟨i, rfl, k⟩
theorem rd_intB (k : Q (.int (b2I b)) H) : rInt1 [.bl b] H Q := .inr ⟨b, rfl, k⟩
def rMax2 : List V → Hp → VK → Prop := fun xs H Q => ∃ i j, xs = [.int i, .int j] ∧ Q (.int (if j > i then j else i)) H
theorem cr_max2 {X : Cx} (hc : X.calm = true) : CallR X (.builtin "max") rMax2 := call_max2 hc
theorem rd_max2 (k : Q (.int (maxI i j)) H) : rMax2 [.int i, .int j] H Q := ⟨i, j, rfl, k⟩
def rMin2 : List V → Hp → VK → Prop := fun xs H Q => ∃ i j, xs = [.int i, .int j] ∧ Q (.int (if j < i then j else i)) H
theorem cr_min2 {X : Cx} (hc : X.calm = true) : CallR X (.builtin "min") rMin2 := call_min2 hc
theorem rd_min2 (k : Q (.int (minI i j)) H) : rMin2 [.int i, .int j] H Q := ⟨i, j, rfl, k⟩
def rLenS : List V → Hp → VK → Prop := fun xs H Q => ∃ z, xs = [.str z] ∧ z.length ≤ sizeLine ∧ Q (.int z.length) H
theorem cr_lenS {X : Cx} : CallR X (.builtin "len") rLenS := call_len_str
theorem rd_lenS {z : Str} (h : fitsS z = true) (k : Q (.int (z.length : Int)) H) : rLenS [.str z] H Q := ⟨z, rfl, fitsS_of h, k⟩
def rLenQ (K : PySem.W.Frag) : List V → Hp → VK → Prop := fun xs H Q => ∃ p ys, xs = [.ref p] ∧ (SqL K H p ys ∨ SqT K H p ys) ∧ Q (.int ys.length) H
theorem cr_lenQ {X : Cx} : CallR X (.builtin "len") (rLenQ X.K) := call_len_seq
theorem rd_lenQ {α : Type} {A : R α} {F : Hp} {xs : List α} (s : SeenQ A K F H v xs) (k : Q (.int (xs.length : Int)) H) : rLenQ K [v] H Q := rd_len s k
def rListQ (K : PySem.W.Frag) : List V → Hp → VK → Prop := fun xs H Q => ∃ p ys, xs = [.ref p] ∧ (SqL K H p ys ∨ SqT K H p ys) ∧ ∀ l, H l = none → Q (.ref l) (upd H l (.lst ys))
theorem cr_listQ {X : Cx} : CallR X (.type "list") (rListQ X.K) := call_list_of
theorem rd_listQ {α : Type} {A : R α} {F : Hp} {xs : List α} (s : SeenQ A K F H v xs) (k : nL A K F Q H xs) : rListQ K [v] H Q := rd_list s k
variable {QS : L2.St → Hp → Prop} {g : TG} {ts us : TS} {N B C : L2.St → Hp → Prop} {R : VK}
theorem rd_gn {i : Nat} (k : QS (σ.set i (some v)) H) : gName i v σ H QS := k
theorem rd_gsub {st : TSet} (k : ta σ H fun o H1 => tb σ H1 fun i H2 => st o i v H2 fun H3 => QS σ H3) : gSub ta tb st v σ H QS := k
theorem rd_seq (k : ts ⟨us ⟨N, R, B, C⟩, R, B, C⟩ σ H) : tSeq ts us ⟨N, R, B, C⟩ σ H := k
theorem rd_asg (k : te σ H fun x H1 => g x σ H1 N) : tAsg te g ⟨N, R, B, C⟩ σ H := k
theorem rd_ifS (k : t σ H fun b H1 => if b = true then ts D σ H1 else us D σ H1) : tIfS t ts us D σ H := k
theorem rd_ret (k : te σ H R) : tRet te ⟨N, R, B, C⟩ σ H := k
theorem rd_drop (k : te σ H fun _ H1 => N σ H1) : tDrop te ⟨N, R, B, C⟩ σ H := k
theorem rd_next (k : N σ H) : tNext ⟨N, R, B, C⟩ σ H := k
theorem rd_cut (Mid : L2.St → Hp → Prop) (h : ts ⟨Mid, R, B, C⟩ σ H) (k : ∀ σ' H', Mid σ' H' → us ⟨N, R, B, C⟩ σ' H') : C8.tCut ts us ⟨N, R, B, C⟩ σ H := ⟨Mid, h, k⟩
theorem rd_for {wi : TI} (k : wi σ H fun J H1 => ForG J g ts D σ H1) : tFor wi g ts D σ H := k
theorem rd_lc {wi : TI} {vs : List Nat} (k : wi σ H fun J H1 => ∀ D, H1 D = none → LcG J g t te vs σ D Q H1) : tLc wi g t te vs σ H Q := k
variable {RI : It → Hp → Prop}
def wL (K : PySem.W.Frag) (RI : It → Hp → Prop) : VK := fun x H1 => ∃ a, x = .ref a ∧ (∃ xs, SqL K H1 a xs) ∧ RI (Itl K a) H1
def wT (K : PySem.W.Frag) (RI : It → Hp → Prop) : VK := fun x H1 => ∃ a, x = .ref a ∧ (∃ xs, SqT K H1 a xs) ∧ RI (Itt K a) H1
def wS (RI : It → Hp → Prop) : VK := fun v H1 => ∃ x, v = .str x ∧ RI (Its x) H1
def wR1 (RI : It → Hp → Prop) : List V → Hp → Prop := fun vs H1 => ∃ j : Int, vs = [.int j] ∧ -(2 ^ 62) ≤ j ∧ j < 2 ^ 62 ∧ RI (Itr 0 j.toNat) H1
theorem rd_iL (k : te σ H (wL K RI)) : iList K te σ H RI := k
theorem rd_iT (k : te σ H (wT K RI)) : iTup K te σ H RI := k
def iSeq (K : PySem.W.Frag) (te : TE) : TI := fun σ H R => iList K te σ H R ∨ iTup K te σ H R
theorem pi_seq {X : Cx} {tg l : Expr} (hl : PE X l te) : PI X tg l (iSeq X.K te) := ⟨fun pins s σ H R I h => h.elim (fun h => (pi_list hl).run pins s σ H R I h) fun h => (pi_tup hl).run pins s σ H R I h⟩
theorem rd_iS (k : te σ H (wS RI)) : iStr te σ H RI := k
theorem rd_iR1 (k : tr σ H (wR1 RI)) : iRng1 tr σ H RI := k
theorem rd_wS {z : Str} (k : RI (Its z) H) : wS RI (.str z) H := ⟨z, rfl, k⟩
def rgOk (a b : Int) : Bool := (decide (-(2 ^ 62) ≤ a) && decide (a < 2 ^ 62)) && (decide (-(2 ^ 62) ≤ b) && decide (b < 2 ^ 62))
theorem rd_r1 {n : Int} (h : rgOk 0 n = true) (k : RI (Itr 0 (n - 0).toNat) H) : wR1 RI [.int n] H := by
  unfold rgOk at h
  simp only [Bool.and_eq_true, decide_eq_true_eq] at h
  exact ⟨n, rfl, h.2.1, h.2.2, by rw [Int.sub_zero] at k; exact k⟩
end
end Gl
namespace Gl
open PySem PySem.Spec PyProof.Rows L2
theorem if_t {α : Type} {b : Bool} {x y r : α} (h : (if b = true then x else y) = r) (hb : b = true) : x = r := by
  rw [hb] at h; exact h
theorem if_f {α : Type} {b : Bool} {x y r : α} (h : (if b = true then x else y) = r) (hb : b = false) : y = r := by
  rw [hb] at h; exact h
theorem if_tt {A B : Prop} (h : A) : if true = true then A else B := h
theorem aft_nx {S ρ : Type} {s : S} {k : S → Option ρ} {r : Option ρ} (h : aft (.nx s) k = r) : k s = r := h
theorem aft_rt {S ρ : Type} {v : ρ} {k : S → Option ρ} {r : Option ρ} (h : aft (.rt v) k = r) : some v = r := h
section
variable {X : Cx}
def repS (x : Str) (n : Int) : Str := Txt.mul x n
def repOk (x : Str) (n : Int) : Bool := (decide (-(2 ^ 62) ≤ n) && decide (n < 2 ^ 62)) && decide (x.length * n.toNat ≤ 100000) && decide (x.length ≤ 100000)
theorem repOk_of {x : Str} {n : Int} (h : repOk x n = true) : MulOk x n := by
  unfold repOk at h
  simp only [Bool.and_eq_true, decide_eq_true_eq] at h
  obtain ⟨⟨⟨h1, h2⟩, h3⟩, h4⟩ := h
  refine ⟨?_, fun a _ => ?_, fun a _ => ?_⟩
  · have e1 : decide (n < -(2 ^ 63 : Int)) = false := decide_eq_false (by omega)
    have e2 : decide (n ≥ (2 ^ 63 : Int)) = false := decide_eq_false (by omega)
    rw [e1, e2]; rfl
  · have hn : 0 < n := by omega
    intro c
    have e3 : (x.length : Int) * n ≤ 100000 := by
      have e4 : ((x.length * n.toNat : Nat) : Int) ≤ ((100000 : Nat) : Int) := Int.ofNat_le.mpr h3
      have e5 : (n.toNat : Int) = n := Int.toNat_of_nonneg (by omega)
      rw [Int.natCast_mul, e5] at e4
      have e7 : ((100000 : Nat) : Int) = 100000 := rfl
      rw [e7] at e4
      exact e4
    have e6 : (x.length : Int) ≤ (2 ^ 63 - 1) / n := by
      rw [Int.le_ediv_iff_mul_le hn]
      omega
    omega
  · have e1 : sizeLine = 16777216 := sizeLine_eq
    unfold Builtin.Str.tooLong
    exact decide_eq_false (by omega)
def rRepS : R2 := fun x y H Q => ∃ z n, x = .str z ∧ y = .int n ∧ repOk z n = true ∧ Q (.str (repS z n)) H
theorem op_repS : OpR X (binaryOp .Mult) rRepS := by
  intro pins s σ H x y v u Q I rx ry h
  obtain ⟨z, n, rfl, rfl, ok, q⟩ := h
  obtain ⟨t, rfl⟩ := rx
  obtain ⟨t', rfl⟩ := ry
  exact SB.mul (repOk_of ok) fun t2 k => ⟨.str _, H, I.tok _, ⟨_, rfl⟩, q⟩
theorem rd_repS {H : Hp} {Q : VK} {z : Str} {n : Int} (h : repOk z n = true) (k : Q (.str (repS z n)) H) : rRepS (.str z) (.int n) H Q := ⟨z, n, rfl, rfl, h, k⟩
def rListS : List V → Hp → VK → Prop := fun xs H Q => ∃ z : Str, xs = [.str z] ∧ z.cps.size ≤ sizeLine ∧ ∀ l, H l = none → Q (.ref l) (upd H l (.lst ((sgns z).map V.str)))
theorem vals_signs {z : Str} {acc : Array Value} (h : ItemsOf (SignAt z) acc z.cps.size) : Vals ((sgns z).map V.str) acc.toList := by
  have hs : acc.toList.length = z.cps.size := by rw [Array.length_toList]; exact h.1
  have key : ∀ (l : List Value) (cs : List Nat), l.length = cs.length → (∀ (j : Nat) (u : Value), l[j]? = some u → ∃ (c : Nat) (t : Tok), cs[j]? = some c ∧ u = Value.str ⟨#[c]⟩ t) → Vals ((cs.map fun c => (⟨#[c]⟩ : Str)).map V.str) l := by
    intro l
    induction l with
    | nil => intro cs hl _; cases cs with
      | nil => exact .nil
      | cons c r => cases hl
    | cons u l ih =>
      intro cs hl hj
      cases cs with
      | nil => cases hl
      | cons c r =>
        obtain ⟨c', t, e1, e2⟩ := hj 0 u rfl
        cases e1
        exact .cons ⟨t, e2⟩ (ih r (Nat.succ.inj hl) fun j w e => hj (j + 1) w e)
  refine key acc.toList z.cps.toList (by rw [hs]; rfl) fun j u e => ?_
  have e' : acc[j]? = some u := by rw [← Array.getElem?_toList]; exact e
  obtain ⟨c, t, e1, e2⟩ := h.2 j u e'
  exact ⟨c, t, by rw [Array.getElem?_toList]; exact e1, e2⟩
theorem cr_listS (hc : X.calm = true) : CallR X (.type "list") rListS := by
  intro pins s σ H xs us Q I r h
  obtain ⟨z, rfl, hz, q⟩ := h
  obtain ⟨u, rfl, t, rfl⟩ := vals1 r
  refine PySem.call_list_str (I.ok.hd hc) z t (fun h' tk acc' c' hk hS hacc => ?_) hz
  have hsz : ((sgns z).map V.str).length ≤ sizeLine := by unfold sgns; simpa using hz
  have I1 := I.laid (a := s.heap.objs.size) (o := .lst ((sgns z).map V.str)) (t' := tk) (h' := h') hk (Nat.le_refl _) (show ObjOk X.prog X.w _ _ _ (.lst _) from ⟨hsz, acc'.toList, c', vals_signs hacc, by simpa using hS⟩)
  exact ⟨.ref s.heap.objs.size, _, I1, rfl, q _ (I.hok.fresh (Nat.le_refl _))⟩
theorem row_strs {K : PySem.W.Frag} {F : Hp} : ∀ xs : List Str, Row qS K F (xs.map V.str) xs
  | [] => .nil
  | _ :: xs => .cons rfl (row_strs xs)
theorem rd_listS {K : PySem.W.Frag} {F H : Hp} {Q : VK} {z : Str} (h : fitsS z = true) (k : nL qS K F Q H (sgns z)) : rListS [.str z] H Q :=
  ⟨z, rfl, fitsS_of h, fun l hl => k l _ hl (row_strs _)⟩
end
section
variable {K : PySem.W.Frag} {P : Addr → Prop} {F0 H0 F H : Hp} {v : V} {α : Type} {A : R α} {xs : List α} {RI : It → Hp → Prop} {σ : L2.St} {te : TE}
theorem rd_wLF (S : Sx P F0 H0 F H) (r : (qL A).r K F v xs) (k : ∀ p vs, SqL K F p vs → Row A K F vs xs → RI (Itl K p) H) : wL K RI v H := by
  obtain ⟨p, vs, rfl, h1, h2⟩ := r
  exact ⟨p, rfl, ⟨vs, Same.seq S.sub (SqL.of h1)⟩, k p vs (SqL.of h1) h2⟩
theorem rd_wTF (S : Sx P F0 H0 F H) (r : (qT A).r K F v xs) (k : ∀ p vs, SqT K F p vs → Row A K F vs xs → RI (Itt K p) H) : wT K RI v H := by
  obtain ⟨p, vs, rfl, h1, h2⟩ := r
  exact ⟨p, rfl, ⟨vs, same_t S.sub h1⟩, k p vs h1 h2⟩
theorem rd_wSeq (S : Sx P F0 H0 F H) (r : (qQ A).r K F v xs) (hv : ∀ Q : VK, Q v H → te σ H Q)
    (k : ∀ (J : It) (n : Nat) (G : Hp → Prop) (it : Nat → V → Prop), Feeds J n G it → Typed A K F n it xs → (∀ F' H', Same F F' → Same F' H' → G H') → RI J H) : iSeq K te σ H RI := by
  rcases r with ⟨p, vs, rfl, h1, h2⟩ | ⟨p, vs, rfl, h1, h2⟩
  · refine .inl (hv _ ⟨p, rfl, ⟨vs, Same.seq S.sub (SqL.of h1)⟩, k _ _ _ _ feedsL (typedRow h2) fun F' H' e1 e2 => Same.seq e2 (Same.seq e1 (SqL.of h1))⟩)
  · refine .inr (hv _ ⟨p, rfl, ⟨vs, same_t S.sub h1⟩, k _ _ _ _ feedsT (typedRow h2) fun F' H' e1 e2 => same_t e2 (same_t e1 h1)⟩)
end
section
variable {K : PySem.W.Frag} {σ : L2.St} {H : Hp} {p : Addr} {u w : V} {QS : L2.St → Hp → Prop} {t g : TG} {ts : TGs} {n : Nat} {vs : List V}
theorem rd_wp {A B : Prop} (h : A) (k : B) : A ∧ B := ⟨h, k⟩
end
section
variable {K : PySem.W.Frag} {P : Addr → Prop} {F0 H0 F H : Hp} {v : V} {α β : Type} {A : R α} {B : R β} {xs : List α} {Q : VK}
theorem tx_int {i : Int} : TyX K H (.int i) (.type "int") := .base (.int i)
theorem tx_bl {i : Bool} : TyX K H (.bl i) (.type "bool") := .base (.bl i)
theorem tx_str {i : Str} : TyX K H (.str i) (.type "str") := .base (.str i)
theorem tx_non : TyX K H .non (.type "NoneType") := .base .non
theorem tx_sqt {p : Addr} {vs : List V} (h : SqT K H p vs) : TyX K H (.ref p) (.type "tuple") := by
  rcases h with (h | ⟨o, h⟩) | ⟨o, its, n, h1, h2, _⟩
  · exact .base (.tup h)
  · exact .fTuple h
  · exact .kTuple h1 h2
theorem rd_isi {t : Value} {n : String} {b : Bool} (s : TyX K H v t) (h : PySem.W.kitOne [] t (.type n) = some b) (k : Q (.bl b) H) (hk : PySem.W.kitOne K t (.type n) = PySem.W.kitOne [] t (.type n) := by rfl) : rIsi K [v, .ty n] H Q :=
  ⟨v, .ty n, t, .type n, b, rfl, .ty n, s, hk.trans h, k⟩
end
section
variable {σ : L2.St} {H : Hp} {Q : VK} {ta tb : TE} {tr : L2.St → Hp → (Int → Int → Hp → Prop) → Prop} {K : PySem.W.Frag} {F : Hp} {QI : Int → Int → Hp → Prop}
def rgFit (a b : Int) : Bool := (decide (-(2 ^ 62) ≤ a) && decide (a < 2 ^ 62)) && (decide (-(2 ^ 62) ≤ b) && (decide (b < 2 ^ 62) && decide ((b - a).toNat ≤ 16000000)))
def gK (Q : VK) : Int → Int → Hp → Prop := fun a b H1 => RgOk a b ∧ ∀ q, H1 q = none → Q (.ref q) (upd H1 q (.lst (rgV a b)))
theorem rd_lrg (k : tr σ H (gK Q)) : tLstRg tr σ H Q := k
def g2K (Q : Int → Int → Hp → Prop) : V → V → Hp → Prop := fun x y H2 => ∃ i j, x = .int i ∧ y = .int j ∧ Q i j H2
theorem rd_g2 (k : ta σ H fun x H1 => tb σ H1 fun y H2 => g2K QI x y H2) : tRg2 ta tb σ H QI := k
theorem rd_g2i {i j : Int} (k : QI i j H) : g2K QI (.int i) (.int j) H := ⟨i, j, rfl, rfl, k⟩
theorem row_rg {a b : Int} : Row qI K F (rgV a b) (rng a b) := by
  unfold rgV rng
  have : ∀ l : List Nat, Row qI K F (l.map fun i : Nat => V.int (a + (i : Nat))) (l.map fun i : Nat => a + (i : Nat)) := fun l => by
    induction l with
    | nil => exact .nil
    | cons x l ih => exact .cons rfl ih
  exact this _
theorem rd_lrgE {a b : Int} (h : rgFit a b = true) (k : nL qI K F Q H (rng a b)) : gK Q a b H := by
  unfold rgFit at h
  simp only [Bool.and_eq_true, decide_eq_true_eq] at h
  obtain ⟨⟨h1, h2⟩, h3, h4, h5⟩ := h
  exact ⟨⟨h1, h2, h3, h4, by omega⟩, fun q hq => k q _ hq row_rg⟩
end
theorem live1 {P : Addr → Prop} {H0 F H : Hp} {p : Addr} {o : HO} (w : Ow P H0 F H p o) : ∀ a, a = p → H a ≠ none := fun a z => by rw [z, w.at_]; exact fun h => nomatch h
end Gl
namespace Gl
open PySem PySem.Spec PyProof.Rows L2
theorem ifE_j {b : Bool} {u1 u2 : VK → Prop} {Q : VK} (J : V → Hp → Prop) (h1 : b = true → ∀ Q' : VK, (∀ c H', J c H' → Q' c H') → u1 Q') (h2 : b = false → ∀ Q' : VK, (∀ c H', J c H' → Q' c H') → u2 Q') (k : ∀ c H', J c H' → Q c H') : if b = true then u1 Q else u2 Q := by
  cases b with
  | true => exact h1 rfl Q k
  | false => exact h2 rfl Q k
end Gl
namespace Gl
open PySem PySem.Spec PyProof.Rows L2
theorem if_ff {A B : Prop} (h : B) : if false = true then A else B := h
section
variable {X : Cx}
theorem ps_dead {st : Stmt} : PS X st (fun _ _ _ => False) := ⟨fun _ _ _ _ _ _ h => h.elim⟩
theorem pss_dead {ss : List Stmt} : PSs X ss (fun _ _ _ => False) := ⟨fun _ _ _ _ _ _ h => h.elim⟩
end
end Gl
namespace Gl
open PySem PySem.Spec PyProof.Rows L2
inductive Th where
  | d (x : PyData) | dct
def qTh : R Th := ⟨fun K F v a => match a with
  | .d x => Dp K F v x
  | .dct => ∃ p, v = .ref p ∧ F p = some (.dK []), fun {K F F' v a} e h => by
    cases a with
    | d x => exact Dp.mono e h
    | dct =>
      obtain ⟨p, h1, h2⟩ := h
      exact ⟨p, h1, e _ _ h2⟩⟩
def thK : Th → String
  | .d .none => "NoneType"
  | .d (.bool _) => "bool"
  | .d (.int _) => "int"
  | .d (.str _) => "str"
  | .d (.list _) => "list"
  | .d (.tuple _) => "tuple"
  | .d (.dict _) => "dict"
  | .dct => "dict"
def isK (k n : String) : Bool := k == n || (k == "bool" && n == "int")
def thIs (n : String) (a : Th) : Bool := isK (thK a) n
def thS : Th → Option Str
  | .d (.str s) => some s
  | _ => none
def thI : Th → Option Int
  | .d (.int s) => some s
  | _ => none
section
variable {K : PySem.W.Frag} {P : Addr → Prop} {F0 H0 F H : Hp} {v : V} {a : Th} {Q : VK}
theorem thS_fact {s : Str} (r : qTh.r K F v a) (h : thS a = some s) : v = .str s := by
  cases a with
  | dct => cases h
  | d x =>
    cases x with
    | str z =>
      cases (show some z = some s from h)
      cases (show Dp K F v (.str _) from r)
      rfl
    | _ => cases h
theorem thI_fact {s : Int} (r : qTh.r K F v a) (h : thI a = some s) : v = .int s := by
  cases a with
  | dct => cases h
  | d x =>
    cases x with
    | int z =>
      cases (show some z = some s from h)
      cases (show Dp K F v (.int _) from r)
      rfl
    | _ => cases h
theorem tx_sql {p : Addr} {vs : List V} (h : SqL K H p vs) : TyX K H (.ref p) (.type "list") := by
  rcases h with (h | ⟨o, h⟩) | ⟨o, its, n, h1, h2, _⟩
  · exact .base (.lst h)
  · exact .base (.frz h)
  · exact .kList h1 h2
theorem tx_th (S : Sx P F0 H0 F H) (r : qTh.r K F v a) : TyX K H v (.type (thK a)) := by
  cases a with
  | dct =>
    obtain ⟨p, rfl, h⟩ := r
    exact .base (.dK (S.sub _ _ h))
  | d x =>
    cases x with
    | none => cases (show Dp K F v .none from r); exact tx_non
    | bool b => cases (show Dp K F v (.bool b) from r); exact tx_bl
    | int b => cases (show Dp K F v (.int b) from r); exact tx_int
    | str b => cases (show Dp K F v (.str b) from r); exact tx_str
    | list b =>
      cases (show Dp K F v (.list b) from r) with
      | lst h _ => exact tx_sql (Same.seq S.sub h)
    | tuple b =>
      cases (show Dp K F v (.tuple b) from r) with
      | tup h _ => exact tx_sqt (same_t S.sub h)
    | dict b => cases (show Dp K F v (.dict b) from r)
theorem rd_isiTh {n : String} (s : TyX K H v (.type (thK a))) (h : (["NoneType", "bool", "int", "str", "list", "tuple", "dict"].all fun k => decide (PySem.W.kitOne [] (.type k) (.type n) = some (isK k n))) = true) (k : Q (.bl (thIs n a)) H) (hk : ∀ t, PySem.W.kitOne K (.type t) (.type n) = PySem.W.kitOne [] (.type t) (.type n) := by intro t; rfl) : rIsi K [v, .ty n] H Q := by
  refine ⟨v, .ty n, _, .type n, thIs n a, rfl, .ty n, s, (hk _).trans ?_, k⟩
  have hm : thK a ∈ ["NoneType", "bool", "int", "str", "list", "tuple", "dict"] := by
    cases a with
    | dct => decide
    | d x => cases x <;> simp [thK]
  exact of_decide_eq_true (List.all_eq_true.mp h _ hm)
end
end Gl
namespace Gl
open PySem PySem.Spec PyProof.Rows L2
section
variable {K : PySem.W.Frag} {P : Addr → Prop} {F0 H0 F H : Hp} {v : V} {Q : VK} {σ : L2.St} {ta te to : TE} {C p dx : Addr} {m f : Str} {sp : Sp} {E : XK} {t : TA} {dvs : List V} {fs : List (Str × V)}
def fdK (K : PySem.W.Frag) (f : Str) (Q : VK) : VK := fun x H1 => ∃ a C dx fs v, x = .ref a ∧ H1 a = some (.ins C dx fs) ∧ Cls K C ∧ NoAttr K C f ∧ fs.lookup f = some v ∧ Q v H1
theorem rd_fld (k : ta σ H (fdK K f Q)) : tFld K ta f σ H Q := k
theorem fd_at {u : V} (h : H p = some (.ins C dx fs)) (c : Cls K C) (n : NoAttr K C f) (l : fs.lookup f = some u) (k : Q u H) : fdK K f Q (.ref p) H := ⟨p, C, dx, fs, u, rfl, h, c, n, l, k⟩
def fsK (K : PySem.W.Frag) (f : Str) (y : V) (R : Hp → Prop) : VK := fun x H2 => ∃ a C dx fs, x = .ref a ∧ H2 a = some (.ins C dx fs) ∧ Cls K C ∧ NoAttr K C f ∧ fs.length < 1000 ∧ R (upd H2 a (.ins C dx (putF f y fs)))
theorem rd_sfld {N B C : L2.St → Hp → Prop} {R : VK} (k : te σ H fun y H1 => to σ H1 (fsK K f y (N σ))) : sFld K to te f ⟨N, R, B, C⟩ σ H := k
theorem fset {y : V} {R : Hp → Prop} {fs' : List (Str × V)} (S : Sx P F0 H0 F H) (w : Ow P H0 F H p (.ins C dx fs)) (c : Cls K C) (n : NoAttr K C f) (l : Nat.ble fs.length 900 = true) (e : putF f y fs = fs') (k : ∀ H', Sx (fun a => a = p) F H F H' → Ow P H0 F H' p (.ins C dx fs') → R H') : fsK K f y R (.ref p) H :=
  ⟨p, C, dx, fs, rfl, w.at_, c, n, Nat.lt_of_le_of_lt (Nat.le_of_ble_eq_true l) (by decide), by rw [e]; exact k _ (putS S w) w.put⟩
def mtK (C : Addr) (m : Str) (G : V → Hp → Prop) : VK := fun x H1 => ∃ a dx fs, x = .ref a ∧ H1 a = some (.ins C dx fs) ∧ fs.lookup m = none ∧ G x H1
theorem rd_meth (k : ta σ H (mtK C m fun x H1 => t σ H1 fun vs H2 => sp (x :: (vs ++ dvs)) H2 Q E)) : tMeth C m sp dvs E ta t σ H Q := k
theorem mt_at {G : V → Hp → Prop} (h : H p = some (.ins C dx fs)) (l : fs.lookup m = none) (k : G (.ref p) H) : mtK C m G (.ref p) H := ⟨p, dx, fs, rfl, h, l, k⟩
def mkK (C : Addr) (sp : Sp) (E : XK) (Q : VK) : List V → Hp → Prop := fun vs H1 => ∀ x dx, H1 x = none → H1 dx = none → dx ≠ x → sp (.ref x :: vs) (upd (upd H1 dx (.own x)) x (.ins C dx [])) (fun v H2 => v = .non ∧ Q (.ref x) H2) E
theorem rd_makeR (k : t σ H (mkK C sp E Q)) : StX.tMakeR C sp E t σ H Q := k
theorem rd_make (k : t σ H (mkK C (fun vs => sp (vs ++ dvs)) E Q)) : tMake C sp dvs E t σ H Q := k
def starSp (n : Nat) (sp : Sp) : Sp := fun vs H Q E => ∃ ws rest, vs = ws ++ rest ∧ ws.length = n ∧ rest.length ≤ sizeLine ∧ ∀ p, H p = none → sp (ws ++ [.ref p]) (upd H p (.tup rest)) Q E
theorem mk_star {α : Type} {A : R α} {vs : List V} {xs : List α} (S : Sx P F0 H0 F H) (r : Row A K F vs xs) (hl : Nat.ble vs.length 900 = true)
    (k : ∀ x dx v F1 H1, H x = none → Sx P0 F H F1 H1 → Ow (fun a => a = x) H1 F1 H1 x (.ins C dx []) → (qT A).r K F1 v xs → sp [.ref x, v] H1 (fun v H2 => v = .non ∧ Q (.ref x) H2) E) : mkK C (starSp 1 sp) E Q vs H := by
  intro x dx hx hdx ne
  refine ⟨[.ref x], vs, rfl, rfl, Nat.le_trans (Nat.le_of_ble_eq_true hl) (Nat.le_trans (by decide) (show 1000 ≤ sizeLine by rw [sizeLine_eq]; decide)), fun p hp => ?_⟩
  have hdx2 : upd H dx (.own x) x = none := by rw [upd_ne (Ne.symm ne)]; exact hx
  have c1 : Sx P0 F H F (upd (upd H dx (.own x)) x (.ins C dx [])) := ((Sx.refl0 S.sub).temp hdx).temp hdx2
  have hxp : x ≠ p := fun e => by subst e; rw [upd_same] at hp; cases hp
  have c2 := c1.alloc (o := .tup vs) hp
  refine k x dx (.ref p) _ _ hx c2 ⟨?_, ?_, .inr rfl⟩ ⟨p, vs, rfl, .inl (.inl upd_same), Row.mono c2.le r⟩
  · rw [upd_ne hxp]
    exact S.free hx
  · rw [upd_ne hxp, upd_same]
theorem mk_plain {vs : List V} (S : Sx P F0 H0 F H)
    (k : ∀ x dx H1, H x = none → Sx P0 F H F H1 → Ow (fun a => a = x) H1 F H1 x (.ins C dx []) → sp (.ref x :: vs) H1 (fun v H2 => v = .non ∧ Q (.ref x) H2) E) : mkK C sp E Q vs H := by
  intro x dx hx hdx ne
  have hdx2 : upd H dx (.own x) x = none := by rw [upd_ne (Ne.symm ne)]; exact hx
  exact k x dx _ hx (((Sx.refl0 S.sub).temp hdx).temp hdx2) ⟨S.free hx, upd_same, .inr rfl⟩
theorem fzI {x : Addr} {F1 H1 F' H' : Hp} {o : HO} (c1 : Sx P0 F H F1 H1) (hx : H x = none) (c : Sx (fun a => a = x) F1 H1 F' H') (w : Ow (fun a => a = x) H1 F' H' x o) : ∃ F'', Sx P0 F H F'' H' ∧ Same F' F'' ∧ F'' x = some o := by
  have S2 : Sx P0 F H F' H' := c1.call c fun a e => by subst e; exact .inr hx
  have w2 : Ow P0 H F' H' x o := ⟨w.fr, w.at_, .inl hx⟩
  exact ⟨_, S2.freeze w2 hx, w2.leF, upd_same⟩
end
section
variable {K : PySem.W.Frag} {P : Addr → Prop} {F0 H0 F H : Hp} {v : V} {Q : VK} {α : Type} {A : R α} {xs : List α} {p : Addr} {vs : List V} {i : Int}
def joinOk (a : Str) (ys : List Str) : Bool := decide ((ys.map (·.length)).sum + ys.length * a.length ≤ 16777216)
theorem row_str {vs : List V} {xs : List Str} (r : Row qS K F vs xs) : vs = xs.map V.str := by
  induction r with
  | nil => rfl
  | cons h t ih =>
    rw [ih, show _ = _ from h]; rfl
def rJoin (K : PySem.W.Frag) : V → List V → Hp → VK → Prop := fun x xs H Q => ∃ a p, ∃ ys : List Str, x = .str a ∧ xs = [.ref p] ∧ (SqL K H p (ys.map V.str) ∨ SqT K H p (ys.map V.str)) ∧ (ys.map (·.length)).sum + ys.length * a.length ≤ 16777216 ∧ Q (.str (Txt.join a ys)) H
theorem mt_joinK {X : Cx} : MtR X "str.join" (rJoin X.K) := mt_join
theorem rd_join {a : Str} {xs : List Str} (s : SeenQ qS K F H v xs) (h : joinOk a xs = true) (k : Q (.str (Txt.join a xs)) H) : rJoin K (.str a) [v] H Q := by
  obtain ⟨p, vs, rfl, h1, r⟩ := s.seq
  obtain rfl := row_str r
  exact ⟨a, p, xs, rfl, rfl, h1, of_decide_eq_true h, k⟩
theorem tyS_str {H : Hp} {x : Str} : tyV K "str" (.str x) H := by first | exact .inr (.inl ⟨rfl, _, rfl⟩) | exact ⟨rfl, _, rfl⟩ | (unfold tyV; simp)
end
section
variable {K : PySem.W.Frag} {P : Addr → Prop} {F0 H0 F H : Hp} {v : V} {Q : VK} {α : Type} {A : R α} {xs : List α} {lo hi : Option Int}
theorem rd_slA (S : Sx P F0 H0 F H) (r : (qT A).r K F v xs) (k : ∀ v' F' H', Sx P0 F H F' H' → (qT A).r K F' v' (cut xs lo hi) → Q v' H') : rSlA K v lo hi H Q := by
  obtain ⟨p, vs, rfl, h1, h2⟩ := id r
  refine ⟨p, vs, rfl, same_t S.sub h1, fun hw => ?_, fun _ q hq => alT' S k q _ hq (row_cut h2 lo hi)⟩
  refine k _ F H (Sx.refl0 S.sub) ?_
  have e : cut xs lo hi = xs := by
    unfold cut
    rw [← pLen h2, hw.1, hw.2, List.drop_zero, Nat.sub_zero, List.take_of_length_le (by rw [pLen h2]; exact Nat.le_refl _)]
  rw [e]
  exact r
end
section
variable {X : Cx} {K : PySem.W.Frag} {e l tg : Expr} {te : TE} {f : Str} {pos : Pos}
theorem pi_tupK (hl : PE X l te) (hK : X.K = K := by rfl) : PI X tg l (iTup K te) := by subst hK; exact pi_tup hl
theorem pi_listK (hl : PE X l te) (hK : X.K = K := by rfl) : PI X tg l (iList K te) := by subst hK; exact pi_list hl
theorem pe_fldK (he : PE X e te) (hb : attributeBase e f X.env (eval e X.env) = eval e X.env) (hK : X.K = K := by rfl) : PE X (.Attribute e f pos) (tFld K te f) := by subst hK; exact pe_fld he hb
end
end Gl
namespace Gl
open PySem PySem.Spec PyProof.Rows L2
section
variable {K : PySem.W.Frag} {P : Addr → Prop} {F0 H0 F H : Hp} {v : V} {Q : VK} {σ : L2.St} {te : TE}
theorem pRev {α β : Type} {R : α → β → Prop} {xs : List α} {ys : List β} (p : Paired R xs ys) : Paired R xs.reverse ys.reverse := by
  induction p with
  | nil => exact .nil
  | cons r t ih =>
    rw [List.reverse_cons, List.reverse_cons]
    exact pApp ih (.cons r .nil)
def rvK {α : Type} (A : R α) (K : PySem.W.Frag) (Q : VK) : VK := fun x H1 => ∃ a xs, x = .ref a ∧ SqL K H1 a xs ∧ ∀ p, H1 p = none → Q (.ref p) (upd H1 p (.lst xs.reverse))
theorem rd_revL {α : Type} (A : R α) (k : te σ H (rvK A K Q)) : tRevL K te σ H Q := k
theorem rv_at {α : Type} {A : R α} {xs : List α} (s : SeenR A K F H v xs) (k : nL A K F Q H xs.reverse) : rvK A K Q v H := by
  obtain ⟨p, vs, rfl, h1, r⟩ := s
  exact ⟨p, vs, rfl, h1, fun q hq => k q _ hq (pRev r)⟩
end
end Gl
namespace Gl
open PySem PySem.Spec PyProof.Rows L2
section
variable {M : Model} {A : Around} {E : Value → Shared → Prop} {s : Shared} {K : PySem.W.Frag} {x C f : Addr} {ox : Obj} {od : Option Obj} {u : Value}
theorem contains_own {Q : Bool → Shared → Prop} (X' : K.In s.heap) (I : PySem.W.InstAt s.heap x ox C od) (hs : PySem.W.findIn K (.ref C) "__contains__" = some (some (.ref f))) (hf : PySem.W.isFn K (.ref f) = true)
    (h : wpAny M A (call (.ref f) [.ref x, u]) (fun v s' => ∃ b, v = .bool b ∧ Q b s') E s) : wpAny M A (contains (.ref x) u) Q E s := by
  unfold contains
  refine wpAny_holding ?_
  have e0 : stdlibNamesSay? (.ref x) u = none := rfl
  rw [e0]
  refine wpAny_bind (wpAny_bind (I.type.here ((PySem.W.looks_findIn X' hs).here ?_)))
  have e1 : (some (Value.ref f) == some Value.none) = false := rfl
  rw [if_neg (by rw [e1]; decide)]
  refine wpAny_bind ?_
  unfold callSpecialUnlessNone?
  refine wpAny_bind (wpAny_bind (I.type.here ((PySem.W.looks_findIn X' hs).here ?_)))
  refine wpAny_holding (wpAny_bind ((PySem.W.bind_fn X' _ (beq_iff_eq.mp hf)).here ?_))
  refine wpAny_bind (wpAny_mono h (fun v s' ⟨b, e, q⟩ => ?_) fun _ _ z => z)
  subst e
  refine wpAny_pure ?_
  show wpAny M A (truthy (.bool b)) Q E s'
  unfold truthy
  exact wpAny_pure q
end
def rInO (C : Addr) (sp : Sp) (E : XK) : R2 := fun x y H Q => ∃ a dx fs, y = .ref a ∧ H a = some (.ins C dx fs) ∧ sp [.ref a, x] H (fun v H2 => ∃ b, v = .bl b ∧ Q (.bl b) H2) E
section
variable {X : Cx} {CX : CXT} {k : Nat} {C f : Addr} {fd : FuncData} {ps : List Str} {sp : Sp} {E : XK}
theorem in_own {pins : List (Addr × Obj)} {σ : L2.St} {H : Hp} {s : Shared} {a dx : Addr} {fs : List (Str × V)} {x : V} {u : Value} {Q : VK} {R : Bool → Shared → Prop} (hm : Meth X.K C "__contains__" f) (F : FnOk X.prog X.w X.K X.mg X.base CX k f fd ps sp) (hr : Room k X.A) (hb : Binds X.K fd ps []) (hx : Passes CX X E) (I : Inv X pins σ H s) (e : H a = some (.ins C dx fs)) (rx : RelV x u)
    (h : sp [.ref a, x] H Q E) (q : ∀ v s', EP X pins σ Q v s' → ∃ b, v = .bool b ∧ R b s') : wpAny (model X.prog X.w) X.A (contains (.ref a) u) R X.xe s := by
  obtain ⟨ox, od, J, _⟩ := StX.insC_at I (.inr ⟨dx, fs, e⟩)
  refine contains_own I.kIn J hm.at_ hm.fn ?_
  have r := run_fn (X := X) (us := [.ref a, u]) (vs := [.ref a, x]) (dvs := []) (ds := []) F hr hb .nil hx I (.cons rfl (.cons rx .nil)) (Q := Q) h
  exact wpAny_mono r q fun _ _ z => z
end
def inK (Q : VK) : VK := fun v H2 => ∃ b, v = .bl b ∧ Q (.bl b) H2
theorem in_at {C p dx : Addr} {fs : List (Str × V)} {sp : Sp} {E : XK} {x : V} {H : Hp} {Q : VK} (h : H p = some (.ins C dx fs)) (k : sp [.ref p, x] H (inK Q) E) : rInO C sp E x (.ref p) H Q := ⟨p, dx, fs, rfl, h, k⟩
end Gl
namespace Gl
open PySem PySem.Spec PyProof.Rows L2
mutual
inductive NKv (K : PySem.W.Frag) (H : Hp) : NestedKey → V → Prop
  | non : NKv K H .none .non
  | bl (b : Bool) : NKv K H (.num (if b = true then 1 else 0)) (.bl b)
  | int (i : Int) : NKv K H (.num i) (.int i)
  | txt (x : Str) : NKv K H (.text x) (.str x)
  | tup {p : Addr} {vs : List V} {ks : List NestedKey} : SqT K H p vs → NKs K H ks vs → NKv K H (.tup ks) (.ref p)
inductive NKs (K : PySem.W.Frag) (H : Hp) : List NestedKey → List V → Prop
  | nil : NKs K H [] []
  | cons {k : NestedKey} {v : V} {ks : List NestedKey} {vs : List V} : NKv K H k v → NKs K H ks vs → NKs K H (k :: ks) (v :: vs)
end
mutual
theorem NKv.mono {K : PySem.W.Frag} {F F' : Hp} (e : Same F F') : ∀ {k : NestedKey} {v : V}, NKv K F k v → NKv K F' k v
  | _, _, .non => .non
  | _, _, .bl b => .bl b
  | _, _, .int i => .int i
  | _, _, .txt x => .txt x
  | _, _, .tup h a => .tup (same_t e h) (NKs.mono e a)
theorem NKs.mono {K : PySem.W.Frag} {F F' : Hp} (e : Same F F') : ∀ {ks : List NestedKey} {vs : List V}, NKs K F ks vs → NKs K F' ks vs
  | _, _, .nil => .nil
  | _, _, .cons h a => .cons (NKv.mono e h) (NKs.mono e a)
end
section
variable {X : Cx} {pins : List (Addr × Obj)} {σ : L2.St} {H : Hp} {s : Shared}
mutual
theorem NKv.is (I : Inv X pins σ H s) : ∀ {k : NestedKey} {v : V} {u : Value}, NKv X.K H k v → RelV v u → NestedIs s.heap k u
  | _, _, u, .non, r => by
    cases r
    exact .none
  | _, _, u, .bl b, r => by
    cases r
    exact .bool rfl
  | _, _, u, .int i, r => by
    obtain ⟨t, rfl⟩ := r
    exact .int i t
  | _, _, u, .txt x, r => by
    obtain ⟨t, rfl⟩ := r
    exact .text x t
  | _, _, u, .tup h a, r => by
    cases (show u = Value.ref _ from r)
    obtain ⟨its, rv, ⟨o, e1, e2, n, e3⟩, _⟩ := I.tuple h
    exact .tup e1 e2 e3 (by simpa using NKs.is I a rv)
theorem NKs.is (I : Inv X pins σ H s) : ∀ {ks : List NestedKey} {vs : List V} {us : List Value}, NKs X.K H ks vs → Vals vs us → NestedAll s.heap ks us
  | _, _, _, .nil, .nil => .nil
  | _, _, _, .cons h a, .cons r rs => .cons (NKv.is I h r) (NKs.is I a rs)
end
end
structure Kd {α : Type} (A : R α) where
  k : α → NestedKey
  is : ∀ {K : PySem.W.Frag} {F : Hp} {v : V} {a : α}, A.r K F v a → NKv K F (k a) v
  inj : ∀ a b : α, k a = k b → a = b
  dep : ∀ a : α, (k a).depth ≤ 8
def kI : Kd qI := ⟨.num, fun {K F v a} h => by cases (show v = .int a from h); exact .int a, fun a b h => by cases h; rfl, fun a => by show 0 ≤ 8; omega⟩
end Gl
namespace Gl
open PySem PySem.W PySem.Calls PyProof.Rows
section
variable {prog : Program} {w : World} {A : Around} {E : Value → Shared → Prop} {s : Shared} {K : Frag} {x y C D f g : Addr} {ox oy : Obj} {od oe : Option Obj}
theorem bin_own {op : Operator} {Q : Value → Shared → Prop} (X : K.In s.heap) (I : InstAt s.heap x ox C od) (J : InstAt s.heap y oy D oe) (hc : selfFirst K C = true) (hd : selfFirst K D = true)
    (hs : findIn K (.ref C) (PySem.dunder op.info.2) = some (some (.ref f))) (hf : isFn K (.ref f) = true) (hr : findIn K (.ref C) (dunderR op.info.2) = some none)
    (hs2 : findIn K (.ref D) (PySem.dunder op.info.2) = some (some (.ref g))) (hr2 : findIn K (.ref D) (dunderR op.info.2) = some none) (hsub : C = D ∨ subIn K (.ref D) (.ref C) = some false)
    (h : wpAny (model prog w) A (call (.ref f) [.ref x, .ref y]) (PySem.W.CmpBack Q) E s) : wpAny (model prog w) A (binaryOp op (.ref x) (.ref y)) Q E s := by
  obtain ⟨cd, rest, hcd, hm⟩ := ksp_first hc
  obtain ⟨cd2, rest2, hcd2, hm2⟩ := ksp_first hd
  rcases hi : op.info with ⟨sym, nm'⟩
  rw [hi] at hs hr hs2 hr2
  dsimp only at hs hr hs2 hr2
  have one := ksp_try X I hs hf h
  obtain ⟨hh, g', d, tt, os⟩ := s
  have L1 : Looks (model prog w) hh (typeOf (.ref x)) (.ref C) := I.type
  have L2 : Looks (model prog w) hh (typeOf (.ref y)) (.ref D) := J.type
  have L3 : Looks (model prog w) hh (fillsNumberSlot (.ref C) nm') true := fills_K X hcd hm hs
  have L4 : Looks (model prog w) hh (fillsNumberSlot (.ref D) nm') true := fills_K X hcd2 hm2 hs2
  have L6 : Looks (model prog w) hh (numberSlotInPython (.ref C) nm') true := ksp_inPy X hs hr (.inl rfl)
  have L7 : Looks (model prog w) hh (numberSlotInPython (.ref D) nm') true := ksp_inPy X hs2 hr2 (.inl rfl)
  simp only [binaryOp, hi]
  refine wpAny_holding (wpAny_bind ?_)
  unfold binaryOp1
  refine wpAny_bind (L1.at (wpAny_bind (L2.at (wpAny_bind (L3.at ?_)))))
  by_cases hCD : C = D
  · subst hCD
    have he : (Value.ref C == Value.ref C) = true := beq_self_eq_true _
    simp only [he, if_true]
    ksp_lk
    refine wpAny_mono one (fun r s' hr' => ?_) fun _ _ e => e
    obtain ⟨v, rfl, hq⟩ := hr'
    ksp_lk
    exact hq
  · have hsub := hsub.resolve_left hCD
    have hne : (Value.ref C == Value.ref D) = false := Bool.eq_false_iff.mpr fun q => hCD (by cases beq_iff_eq.mp q; rfl)
    have L5 : Looks (model prog w) hh (isSubtype (.ref D) (.ref C)) false := looks_subIn X hsub
    simp only [hne, Bool.false_eq_true, if_false]
    ksp_lk
    refine wpAny_mono one (fun r s' hr' => ?_) fun _ _ e => e
    obtain ⟨v, rfl, hq⟩ := hr'
    ksp_lk
    exact hq
end
end Gl
namespace Gl
open PySem PySem.Spec PyProof.Rows L2
structure OwnOp (K : PySem.W.Frag) (C : Addr) (nm : String) (f : Addr) : Prop where
  first : PySem.W.selfFirst K C = true
  at_ : PySem.W.findIn K (.ref C) (PySem.dunder nm) = some (some (.ref f))
  fn : PySem.W.isFn K (.ref f) = true
  rev : PySem.W.findIn K (.ref C) (dunderR nm) = some none
def rBinO (K : PySem.W.Frag) (nm : String) (f : Addr) (sp : Sp) (E : XK) : R2 := fun x y H Q => ∃ a b C D dx dy fs gs g, x = .ref a ∧ y = .ref b ∧ H a = some (.ins C dx fs) ∧ H b = some (.ins D dy gs) ∧ OwnOp K C nm f ∧ OwnOp K D nm g ∧ (C = D ∨ PySem.W.subIn K (.ref D) (.ref C) = some false) ∧ sp [x, y] H Q E
section
variable {X : Cx} {CX : CXT} {k : Nat} {f : Addr} {fd : FuncData} {ps : List Str} {sp : Sp} {E : XK}
theorem op_binO {op : Operator} (F : FnOk X.prog X.w X.K X.mg X.base CX k f fd ps sp) (hr : Room k X.A) (hb : Binds X.K fd ps []) (hx : Passes CX X E) : OpR X (binaryOp op) (rBinO X.K op.info.2 f sp E) := by
  intro pins s σ H x y v u Q I rx ry h
  obtain ⟨a, b, C, D, dx, dy, fs, gs, g, rfl, rfl, e1, e2, o1, o2, hs, h⟩ := h
  cases rx; cases ry
  obtain ⟨ox, od, J, _⟩ := StX.insC_at I (.inr ⟨dx, fs, e1⟩)
  obtain ⟨oy, oe, J2, _⟩ := StX.insC_at I (.inr ⟨dy, gs, e2⟩)
  refine bin_own I.kIn J J2 o1.first o2.first o1.at_ o1.fn o1.rev o2.at_ o2.rev hs ?_
  have r := run_fn (X := X) (us := [.ref a, .ref b]) (vs := [.ref a, .ref b]) (dvs := []) (ds := []) F hr hb .nil hx I (.cons rfl (.cons rfl .nil)) (Q := Q) h
  refine wpAny_mono r (fun z s' hz => ?_) fun _ _ z => z
  obtain ⟨w', H', I', rw', q⟩ := id hz
  cases z with
  | notImplemented => cases w' <;> first | (obtain ⟨t, ht⟩ := rw'; cases ht; done) | (cases rw'; done) | exact absurd rw' (fun z => nomatch z)
  | _ => exact hz
end
end Gl
namespace Gl
open PySem PySem.W PySem.Calls PyProof.Rows
section
variable {prog : Program} {w : World} {A : Around} {E : Value → Shared → Prop} {s : Shared} {K : Frag} {x C f : Addr} {ox : Obj} {od : Option Obj} {b tb : Value}
theorem cmp_own {op : CmpOp} {Q : Value → Shared → Prop} (hu : A.units < cLine) (X : K.In s.heap) (I : InstAt s.heap x ox C od) (hb : Looks (model prog w) s.heap (typeOf b) tb) (hn : notFirst K C tb = true)
    (hs : findIn K (.ref C) (cmpInfo op).2.1 = some (some (.ref f))) (hf : isFn K (.ref f) = true)
    (h : wpAny (model prog w) A (call (.ref f) [.ref x, b]) (PySem.W.CmpBack Q) E s) : wpAny (model prog w) A (richCompare op (.ref x) b) Q E s := by
  have one : wpAny (model prog w) A (tryCompare (.ref x) (cmpInfo op).2.1 b) (fun r s' => ∃ v, r = some v ∧ Q v s') E s := by
    unfold tryCompare
    refine wpAny_bind (ifBound_K X I hs hf (wpAny_mono h (fun v s' hv => ?_) fun _ _ e => e))
    cases v <;> first | exact hv.elim | exact wpAny_pure ⟨_, rfl, hv⟩
  unfold richCompare
  simp only [oneThing_ref]
  refine wpAny_holding (wpAny_bind (wpAny_cRoomFor hu ?_))
  refine wpAny_bind (I.type.here (wpAny_bind (hb.here ?_)))
  split
  · rename_i q
    have e : subIn K tb (.ref C) = some false := by
      rcases Bool.or_eq_true_iff.mp hn with e | e
      · rw [beq_iff_eq.mp e] at q; simp at q
      · exact beq_iff_eq.mp e
    refine wpAny_bind ((looks_subIn X e).here ?_)
    simp only [Bool.false_eq_true, if_false]
    refine wpAny_bind (wpAny_mono one (fun r s' z => ?_) fun _ _ e => e)
    obtain ⟨v, rfl, hq⟩ := z
    exact wpAny_pure hq
  · refine wpAny_bind (wpAny_pure ?_)
    simp only [Bool.false_eq_true, if_false]
    refine wpAny_bind (wpAny_mono one (fun r s' z => ?_) fun _ _ e => e)
    obtain ⟨v, rfl, hq⟩ := z
    exact wpAny_pure hq
end
end Gl
namespace Gl
open PySem PySem.Spec PyProof.Rows L2
structure OwnEq (K : PySem.W.Frag) (C f : Addr) : Prop where
  at_ : PySem.W.findIn K (.ref C) "__eq__" = some (some (.ref f))
  fn : PySem.W.isFn K (.ref f) = true
inductive RightOk (K : PySem.W.Frag) (H : Hp) (C : Addr) : V → Prop
  | ins {b D dy : Addr} {gs : List (Str × V)} : H b = some (.ins D dy gs) → PySem.W.notFirst K C (.ref D) = true → RightOk K H C (.ref b)
  | str (z : Str) : PySem.W.notFirst K C (.type "str") = true → RightOk K H C (.str z)
def rEqO (K : PySem.W.Frag) (f : Addr) (sp : Sp) (E : XK) : R2 := fun x y H Q => ∃ a C dx fs, x = .ref a ∧ H a = some (.ins C dx fs) ∧ OwnEq K C f ∧ RightOk K H C y ∧ sp [x, y] H Q E
section
variable {X : Cx} {CX : CXT} {k : Nat} {f : Addr} {fd : FuncData} {ps : List Str} {sp : Sp} {E : XK}
theorem op_eqO (F : FnOk X.prog X.w X.K X.mg X.base CX k f fd ps sp) (hr : Room k X.A) (hb : Binds X.K fd ps []) (hx : Passes CX X E) : OpR X (compareOp .Eq) (rEqO X.K f sp E) := by
  intro pins s σ H x y v u Q I rx ry h
  obtain ⟨a, C, dx, fs, rfl, e1, o, ro, h⟩ := h
  cases rx
  obtain ⟨ox, od, J, _⟩ := StX.insC_at I (.inr ⟨dx, fs, e1⟩)
  have r := run_fn (X := X) (us := [.ref a, u]) (vs := [.ref a, y]) (dvs := []) (ds := []) F hr hb .nil hx I (.cons rfl (.cons ry .nil)) (Q := Q) h
  have back : wpAny (model X.prog X.w) X.A (call (.ref f) [.ref a, u]) (PySem.W.CmpBack (EP X pins σ Q)) X.xe s := by
    refine wpAny_mono r (fun z s' hz => ?_) fun _ _ z => z
    obtain ⟨w', H', I', rw', q⟩ := id hz
    cases z with
    | notImplemented => cases w' <;> first | (obtain ⟨t, ht⟩ := rw'; cases ht; done) | (cases rw'; done) | exact absurd rw' (fun z => nomatch z)
    | _ => exact hz
  have hu : X.A.units < cLine := hr.units0
  show wpAny _ _ (richCompare .Eq (.ref a) u) _ _ s
  cases ro with
  | ins e2 hn =>
    cases ry
    obtain ⟨oy, oe, J2, _⟩ := StX.insC_at I (.inr ⟨_, _, e2⟩)
    exact cmp_own hu I.kIn J J2.type hn o.at_ o.fn back
  | str z hn =>
    obtain ⟨t, rfl⟩ := ry
    exact cmp_own hu I.kIn J (PySem.W.Looks.of_pure rfl) hn o.at_ o.fn back
end
end Gl
namespace PySem
namespace OwnE
open PySem.W PySem.Calls PyProof.Rows PySem.HandSPX
abbrev supS (text : Str) (j : Nat) (p0 p1 p2 p3 p4 p5 : Pos) : Stmt := .Expr (.Call (.Attribute (.Call (.Name "super" p0) [] [] p1) "__init__" p2) [.Constant (.str text) j p3] [] p4) p5
abbrev setS (f : Str) (q1 q2 q3 q4 : Pos) : Stmt := .Assign [.Attribute (.Name "self" q1) f q2] (.Name f q3) q4
structure ErC (P : Program) (K : Frag) (C fI : Addr) (q : Str) (params : Arguments) (body : List Stmt) (scope : Scope) : Prop where
  x : L2.OexC K C
  iC : findIn K (.ref C) "__init__" = some (some (.ref fI))
  tC : typeIn K (.ref fI) = some (.type "function")
  sup : ks_superIn K C C "__init__" = some (some (.builtin "ValueError.__init__"))
  sub : subIn K (.ref C) (.type "ValueError") = some true
  own : mroIn K C (.ref C) = some true
  tp : nsIn K cStatics "thirdparty.any" = some none
  sg : nsIn K mainGlobals "super" = some none
  main : (P.main.scope.names.lookup ("super" : Str)).isSome = false
  fn : ∃ (oc : Value) (od : Option Addr) (kV doc pm : Value) (an : Option Addr) (cda : Addr) (ct : Value) (cc : Addr) (osl : Array (Option Value)) (ccl : Value) (cdd : Option Addr) (vs : Array Value) (ccs : Array (Option Value)) (file : Str) (tf : Tok) (cl : Value) (cld : Option Addr) (csl : Array (Option Value)),
    K.lookup fI = some ⟨oc, od, .func (ksFn "__init__" q params body scope .none kV doc pm an (.ref cda) ct cc), osl⟩ ∧ codeIn K (.ref cda) q = true ∧ K.lookup cda = some ⟨ccl, cdd, .fields vs, ccs⟩ ∧ vs[2]? = some (.str file tf) ∧ ((P.main.file : Str) == file) = true ∧ K.lookup cc = some ⟨cl, cld, .cell (some (.ref C)), csl⟩
section
variable {prog : Program} {w : World} {A : Around} {E : Value → Shared → Prop} {R : Result → Shared → Prop} {s : Shared} {K : Frag} {mg : Str → Option Value} {C fI : Addr} {q text : Str} {params : Arguments} {body : List Stmt} {scope : Scope}
theorem bw_call {u e t0 C : Addr} {nm q : Str} {N : Addr} {bs bm : List Value} {hdct : Bool} {sn : List Str} {sub : List Value} {ab : Bool} {col : Option Bool} {dd : Option Addr} {k0 k1 k2 k3 k5 : Option Value} {h : Heap} {g : Array GenState} {d : Drawn} {t : Nat} {os : OsState} {rest : List Value} {Q : Value → Shared → Prop}
    (hC : h.get? C = some (excClassObj nm q C N bs bm hdct sn sub ab col dd k0 k1 k2 k3 k5 "ValueError.__new__")) (he : h.get? e = some (excO C t0)) (hu : h.get? u = some (kxs_mw "ValueError.__init__" e)) (hrest : rest.length ≤ sizeLine)
    (hq : ∀ h' t1, (∀ b o, b ≠ e → h.get? b = some o → h'.get? b = some o) → h'.get? e = some (excO C t1) → Q .none ⟨h', g, d, t, os⟩) :
    wpAny (model prog w) A (call (.ref u) rest) Q E ⟨h, g, d, t, os⟩ := by
  refine wpAny_call (codeAny_of_tree ?_)
  show wpAny _ A.in1 (callAny (.ref u) ⟨rest, []⟩) _ _ _
  simp only [callAny]
  refine wpAny_bind (wpAny_load hu ?_)
  simp only [kxs_mw, show (Value.type "method-wrapper" == Value.type "method" || Value.type "method-wrapper" == Value.type "builtin_function_or_method" || Value.type "method-wrapper" == Value.type "method-wrapper") = true by decide, if_true]
  refine KFB.if_so (by decide) ?_
  refine wpAny_bind (check_bound_init PySem.F.excBase_ValueError.toExcCallFacts hC he rfl ?_)
  refine wpAny_bind (wpAny_pure (wpAny_pure ?_))
  refine ⟨plainId_quiet PySem.F.excBase_ValueError.init.plain _, codeAny_builtin PySem.F.excBase_ValueError.initEntry ?_⟩
  exact exc_init_tree (cls := .ref C) (t0 := t0) (dv := none) (c2 := .none) (c3 := .none) (b4 := .bool false) he hrest fun h' k e' _ => hq h' _ k e'
theorem sup_stmt (T : ErC prog K C fI q params body scope) {L x t0 cc cda : Addr} {m mb : Str → Option Value} {j : Nat} {p0 p1 p2 p3 p4 p5 : Pos} {ar : Arg} {Q : Flow → Shared → Prop} {oc : Value} {od : Option Addr} {dV kV doc pm : Value} {an : Option Addr} {ct : Value} {osl : Array (Option Value)} {ccl : Value} {cdd : Option Addr} {vs : Array Value} {ccs : Array (Option Value)} {file : Str} {tf : Tok} {cl : Value} {cld : Option Addr} {csl : Array (Option Value)}
    (lf : K.lookup fI = some ⟨oc, od, .func (ksFn "__init__" q params body scope dV kV doc pm an (.ref cda) ct cc), osl⟩) (lc : K.lookup cda = some ⟨ccl, cdd, .fields vs, ccs⟩) (hvs : vs[2]? = some (.str file tf)) (hfile : ((prog.main.file : Str) == file) = true)
    (lcc : K.lookup cc = some ⟨cl, cld, .cell (some (.ref C)), csl⟩) (X : K.In s.heap) (G : s.heap.Ns mainGlobals mg) (hsg : mg "super" = none) (Gb : s.heap.Ns builtinsNs mb) (hb : mb "super" = bootBuiltins "super")
    (hn : s.heap.Ns L m) (hv : m ar.arg = some (.ref x)) (hx : s.heap.get? x = some (excO C t0)) (hp : (params.posonlyargs ++ params.args).head? = some ar)
    (hks : scope.names.lookup ("super" : Str) = some .globalImplicit) (hkc : scope.names.lookup ("__class__" : Str) = some .free) (hka : scope.names.lookup ar.arg = some .local) (hk : scope.kind = .function)
    {pl : Sem Bool} (he : eval (.Call (.Attribute (.Call (.Name "super" p0) [] [] p1) "__init__" p2) [.Constant (.str text) j p3] [] p4) (ksEnv q scope L fI (.ref cda) cc) = (do
      let ov ← attributeBase (.Call (.Name "super" p0) [] [] p1) "__init__" (ksEnv q scope L fI (.ref cda) cc) (eval (.Call (.Name "super" p0) [] [] p1) (ksEnv q scope L fI (.ref cda) cc))
      standAt p2.atName
      let (f, first) ← holding [ov] (getMethod ov "__init__" pl)
      callWith p4 f first (backTo p4 (starEach [.Constant (.str text) j p3] (ksEnv q scope L fI (.ref cda) cc))) []))
    (hi : interactive (ksEnv q scope L fI (.ref cda) cc) = false) (hsw : swapsWith (.Call (.Attribute (.Call (.Name "super" p0) [] [] p1) "__init__" p2) [.Constant (.str text) j p3] [] p4) none p5.line (ksEnv q scope L fI (.ref cda) cc) = pure false)
    (hq : ∀ h' tk t1, h'.Ns L m → (∀ b o, b ≠ x → s.heap.get? b = some o → h'.get? b = some o) → h'.get? x = some (excO C t1) → Q .next { s with heap := h', toks := tk }) :
    _root_.PySem.wpAt (model prog w) A (.func body (ksEnv q scope L fI (.ref cda) cc)) (exec (supS text j p0 p1 p2 p3 p4 p5) (ksEnv q scope L fI (.ref cda) cc)) Q E s := by
  obtain ⟨nm, qn, N, bs, bm, sn, sub, ab, col, dd, k0, k1, k2, k3, k5, hC, hbm⟩ := T.x.cls
  have hcl : clsIn K C = some { name := nm, bases := bs, mro := .ref C :: bm, ns := N, qualname := qn, hasDict := true, slotNames := sn, subclasses := sub, abstract := ab, collection := col, hasDel := false } := by unfold clsIn; rw [hC] <;> rfl
  have hm := T.sup
  unfold ks_superIn at hm
  rw [hcl] at hm
  obtain ⟨hh, g, d, t, os⟩ := s
  refine ks_wpAt_Expr_any (ks_wpAt_MethodCall ?_ he) hi hsw
  refine ks_wpAt_super_base (env := ksEnv q scope L fI (.ref cda) cc) hks hkc rfl rfl (X _ _ lf) rfl hp rfl (X _ _ lc) rfl hvs hfile T.main ?_
  refine ks_loadName_global hk hks (loadGlobal_builtin (env := ksEnv q scope L fI (.ref cda) cc) G hsg Gb (hb.trans (by rfl)) ⟨rfl, ?_⟩)
  refine wpAny_loadName_free hk hkc rfl ⟨_, X _ _ lcc, rfl⟩ ?_
  refine wpAny_loadName_local hk hka hn hv ?_
  refine ks_wpAny_isType_cls (X _ _ hC) rfl ⟨rfl, ?_⟩
  refine ks_wpAny_call_super (X _ _ hC) rfl hx rfl (fun c e => by cases e) (looks_mroIn X T.own) (fun h' e k => ?_)
  have X' : K.In h' := X.keeps k
  have hI : Looks (model prog w) h' (isInstance (.ref x) (.type "ValueError")) true := (InstAt.type (⟨k _ _ hx, rfl, rfl, trivial⟩ : InstAt h' x (excO C t0) C none)).andThen (looks_subIn X' T.sub)
  have hxC : x ≠ C := fun z => by
    have e1 := X _ _ hC
    rw [← z, hx] at e1
    cases e1
  refine kxs_getMethod kxs_ValueError e (looks_opaque X' T.tp) (l₀ := .ref C :: bm) (fun A Q E s k q => wpAny_bind ((looks_clsIn X' hcl) A _ E s k (wpAny_pure q))) rfl X' hm hI hxC rfl ?_
  have hw : (h'.push (kxs_mw "ValueError.__init__" x)).get? h'.objs.size = some (kxs_mw "ValueError.__init__" x) := Heap.get?_push_at rfl rfl
  refine kxs_callWith (i := "ValueError.__init__") (x := x) rfl (evalArgs_plain (Calls.spliced_cons (wpAny_Constant_str (k := j) (pos := p3) (Calls.spliced_nil ⟨hw, ?_⟩))))
  refine bw_call ((X'.keeps fun b o e => Heap.get?_push_of_some _ e) _ _ hC) (Heap.get?_push_of_some _ (k _ _ hx)) hw (by rw [sizeLine_eq]; exact (by decide : 1 ≤ 16777216)) fun h3 t1 k3 hx3 => ?_
  obtain ⟨oL, es, ep, hL, r⟩ := hn
  have Lx : L ≠ x := fun z => by
    have e1 := hL
    rw [z] at e1
    have e2 := hx.symm.trans e1
    cases e2
    obtain ⟨hd, _⟩ := r
    cases hd
  exact hq h3 _ t1 ⟨oL, es, ep, k3 _ _ Lx (Heap.get?_push_of_some _ (k _ _ hL)), r⟩ (fun b o hb ho => k3 b o hb (Heap.get?_push_of_some _ (k b o ho))) hx3
end
inductive Sets : List Str → List Stmt → Prop
  | nil : Sets [] []
  | cons {f : Str} {fs : List Str} {ss : List Stmt} {q1 q2 q3 q4 : Pos} (r : Sets fs ss) : Sets (f :: fs) (setS f q1 q2 q3 q4 :: ss)
def PartE (h0 h : Heap) (x C t1 : Addr) (mA : Str → Option Value) (ns : List Str) : Option Addr → Prop
  | none => h.get? x = some (excO C t1) ∧ (mA = fun _ => none) ∧ ns = []
  | some dx => h0.objs.size < dx ∧ dx ≠ x ∧ h.get? x = some { cls := .ref C, dict := some dx, data := .fields #[.ref t1, .none, .none, .none, .bool false, .none] } ∧ h.Ns1 dx mA ∧ Within mA ns
def putM : List Str → List Value → (Str → Option Value) → Str → Option Value
  | f :: fs, u :: us, mA => putM fs us (fun y => if y = f then some u else mA y)
  | _, _, mA => mA
section
variable {prog : Program} {w : World} {A : Around} {E : Value → Shared → Prop} {K : Frag} {C : Addr} {env : Env}
theorem kept_but {h h' : Heap} {x : Addr} (X : K.In h) (hx : K.lookup x = none) (k : ∀ b o, b ≠ x → h.get? b = some o → h'.get? b = some o) : K.In h' := fun a o e =>
  k a o (fun z => by rw [z, hx] at e; cases e) (X a o e)
theorem ns1_lt {h : Heap} {dx : Addr} {mA : Str → Option Value} (hn : h.Ns1 dx mA) : dx < h.objs.size := by
  obtain ⟨o, es, ep, ho, rr⟩ := hn
  exact Heap.lt_size ho
theorem sets_run (T : L2.OexC K C) {x t1 L : Addr} {m : Str → Option Value} {h0 : Heap} {Q : Flow → Shared → Prop} (hk : env.scope.kind = .function) (hL : env.locals = L) (hs0 : env.kindOf "self" = some .local) (hmx : m "self" = some (.ref x)) (hLx : L ≠ x) (hnx : K.lookup x = none) (hKl : ∀ a o, K.lookup a = some o → a < h0.objs.size) (hL0 : ∀ dx, h0.objs.size < dx → L ≠ dx) :
    ∀ {fs : List Str} {ss : List Stmt}, Sets fs ss → ∀ (us : List Value) (s : Shared) (d : Option Addr) (mA : Str → Option Value) (ns : List Str), us.length = fs.length → ns.length + fs.length ≤ 900 → (∀ f ∈ fs, env.kindOf f = some .local ∧ (f == ("__debug__" : Str)) = false ∧ findIn K (.ref C) f = some none) → (∀ p ∈ fs.zip us, m p.1 = some p.2) →
      h0.objs.size < s.heap.objs.size → K.In s.heap → s.heap.Ns L m → PartE h0 s.heap x C t1 mA ns d →
      (∀ h' tk d', (∀ b o, b ≠ x → h0.get? b = some o → s.heap.get? b = some o → h'.get? b = some o) → (fs = [] → d' = d) → (∀ z, d = some z → d' = some z) → (fs ≠ [] → d' ≠ none) → PartE h0 h' x C t1 (putM fs us mA) (fs.reverse ++ ns) d' → Q .next { s with heap := h', toks := tk }) →
      wpAny (model prog w) A (execs ss env) Q E s := by
  obtain ⟨nm, qn, N, bs, bm, sn, sub, ab, col, dd, k0, k1, k2, k3, k5, hC, hbm⟩ := T.cls
  have hcl : clsIn K C = some { name := nm, bases := bs, mro := .ref C :: bm, ns := N, qualname := qn, hasDict := true, slotNames := sn, subclasses := sub, abstract := ab, collection := col, hasDel := false } := by unfold clsIn; rw [hC] <;> rfl
  intro fs ss r
  induction r with
  | nil =>
    intro us s d mA ns hl hz hf hm hsz X hn hP hq
    obtain ⟨hp, g, dr, t, os⟩ := s
    have e : us = [] := List.length_eq_zero_iff.mp hl
    subst e
    exact wpAny_execs_nil (hq hp t d (fun b o _ _ h => h) (fun _ => rfl) (fun z h => h) (fun h => absurd rfl h) hP)
  | @cons f fs ss q1 q2 q3 q4 r ih =>
    intro us s d mA ns hl hz hf hm hsz X hn hP hq
    obtain ⟨hp, g, dr, t, os⟩ := s
    cases us with
    | nil => cases hl
    | cons u us =>
      obtain ⟨hf1, hf2, hf3⟩ := hf f (List.mem_cons_self ..)
      have hu : m f = some u := hm (f, u) (by show (f, u) ∈ (f, u) :: fs.zip us; exact List.mem_cons_self ..)
      refine wpAny_execs_cons (plainObj_wpAny_Assign_Attribute ?_ (by rfl))
      refine wpAny_Name (wpAny_loadName_local hk hf1 (by rw [hL]; exact hn) hu ?_) hf2
      refine wpAny_Name (wpAny_loadName_local hk hs0 (by rw [hL]; exact hn) hmx ?_) (by decide)
      have hl' : us.length = fs.length := Nat.succ.inj hl
      have hz' : (f :: ns).length + fs.length ≤ 900 := by simp only [List.length_cons] at hz ⊢; omega
      have hf' : ∀ g ∈ fs, env.kindOf g = some .local ∧ (g == ("__debug__" : Str)) = false ∧ findIn K (.ref C) g = some none := fun g hg => hf g (List.mem_cons_of_mem _ hg)
      have hm' : ∀ p ∈ fs.zip us, m p.1 = some p.2 := fun p hp => hm p (by show p ∈ (f, u) :: fs.zip us; exact List.mem_cons_of_mem _ hp)
      have er : (f :: fs).reverse ++ ns = fs.reverse ++ (f :: ns) := by simp
      cases d with
      | none =>
        obtain ⟨hx, rfl, rfl⟩ := hP
        refine set_plain X (ox := excO C t1) (od := none) ⟨hx, rfl, rfl, trivial⟩ T.sa ?_
        refine exc_osa X hx hcl (show refsVE (.ref C :: bm) = true from hbm) rfl hf3 (fun h3 tk3 dx k3' dn dne hx3 hn3 => ?_)
        have keepL : h3.Ns L m := by
          obtain ⟨oL, es, ep, hoL, rr⟩ := hn
          exact ⟨oL, es, ep, k3' _ _ hLx hoL, rr⟩
        refine ih us ⟨h3, g, dr, tk3, os⟩ (some dx) _ [f] hl' hz' hf' hm' ?_ ?_ keepL ⟨Nat.lt_of_lt_of_le hsz dn, dne, hx3, hn3, ?_⟩ ?_
        · exact Nat.lt_trans (Nat.lt_of_lt_of_le hsz dn) (ns1_lt hn3)
        · exact kept_but X hnx k3'
        · exact Within.cons f u (fun y hy => absurd rfl hy)
        · intro h4 tk4 d4 kk e1 e2 e3 hP4
          refine hq h4 tk4 d4 (fun b o hb h0 h1 => kk b o hb h0 (k3' b o hb h1)) (fun z => by cases z) (fun z h => by cases h) (fun _ z => by rw [e2 dx rfl] at z; cases z) ?_
          rw [er]
          exact hP4
      | some dx =>
        obtain ⟨hdx, dne, hx, hns, hw⟩ := hP
        obtain ⟨oD, esD, epD, hoD, rD⟩ := id hns
        refine set_plain X (ox := { cls := .ref C, dict := some dx, data := .fields #[.ref t1, .none, .none, .none, .bool false, .none] }) (od := some oD) ⟨hx, rfl, rfl, hoD⟩ T.sa ?_
        refine PySem.OEX.osa_old X hx hns hw (by simp only [List.length_cons] at hz; omega) hcl (show refsVE (.ref C :: bm) = true from hbm) rfl hf3 (fun h3 tk3 k3' hn3 => ?_)
        have keepL : h3.Ns L m := by
          obtain ⟨oL, es, ep, hoL, rr⟩ := hn
          exact ⟨oL, es, ep, k3' _ _ (hL0 dx hdx) hoL, rr⟩
        have hdK : K.lookup dx = none := by
          cases e : K.lookup dx with
          | none => rfl
          | some o => exact absurd (hKl _ _ e) (Nat.not_lt.mpr (Nat.le_of_lt hdx))
        refine ih us ⟨h3, g, dr, tk3, os⟩ (some dx) _ (f :: ns) hl' hz' hf' hm' ?_ ?_ keepL ⟨hdx, dne, k3' _ _ (Ne.symm dne) hx, hn3, ?_⟩ ?_
        · exact Nat.lt_trans hdx (ns1_lt hn3)
        · exact kept_but X hdK k3'
        · exact Within.cons f u hw
        · intro h4 tk4 d4 kk e1 e2 e3 hP4
          refine hq h4 tk4 d4 (fun b o hb h0 h1 => kk b o hb h0 (k3' b o (fun z => ?_) h1)) (fun z => by cases z) (fun z h => by cases h; exact e2 dx rfl) (fun _ z => by rw [e2 dx rfl] at z; cases z) ?_
          · rw [z] at h0
            exact absurd (Heap.lt_size h0) (Nat.not_lt.mpr (Nat.le_of_lt hdx))
          · rw [er]
            exact hP4
theorem lookup_mem {k : Str} {v : Value} : ∀ {l : List (Str × Value)}, (l.map (·.1)).Nodup → (k, v) ∈ l → l.lookup k = some v
  | [], _, h => by cases h
  | (a, b) :: l, hn, h => by
    rcases List.mem_cons.mp h with e | h
    · cases e
      simp [List.lookup]
    · have hne : (k == a) = false := by
        have h1 : a ∉ l.map (·.1) := (List.nodup_cons.mp hn).1
        have h2 : k ≠ a := fun z => h1 (by rw [← z]; exact List.mem_map.mpr ⟨_, h, rfl⟩)
        simpa using h2
      simp only [List.lookup, hne]
      exact lookup_mem (List.nodup_cons.mp hn).2 h
theorem lookup_rev {k : Str} {v : Value} {l : List (Str × Value)} (hn : (l.map (·.1)).Nodup) (h : (k, v) ∈ l) : l.reverse.lookup k = some v :=
  lookup_mem (by rw [List.map_reverse]; exact List.pairwise_reverse.mpr (hn.imp fun h => Ne.symm h)) (List.mem_reverse.mpr h)
structure IS (q : Str) (params : Arguments) (body : List Stmt) (scope : Scope) (fs : List Str) : Prop where
  bd : ∃ (text : Str) (j : Nat) (p0 p1 p2 p3 p4 p5 : Pos) (ss : List Stmt), body = supS text j p0 p1 p2 p3 p4 p5 :: ss ∧ Sets fs ss ∧
    (∀ (L fI cda cc : Addr), (∃ pl : Sem Bool, eval (.Call (.Attribute (.Call (.Name "super" p0) [] [] p1) "__init__" p2) [.Constant (.str text) j p3] [] p4) (ksEnv q scope L fI (.ref cda) cc) = (do
      let ov ← attributeBase (.Call (.Name "super" p0) [] [] p1) "__init__" (ksEnv q scope L fI (.ref cda) cc) (eval (.Call (.Name "super" p0) [] [] p1) (ksEnv q scope L fI (.ref cda) cc))
      standAt p2.atName
      let (f, first) ← holding [ov] (getMethod ov "__init__" pl)
      callWith p4 f first (backTo p4 (starEach [.Constant (.str text) j p3] (ksEnv q scope L fI (.ref cda) cc))) [])) ∧
      interactive (ksEnv q scope L fI (.ref cda) cc) = false ∧ swapsWith (.Call (.Attribute (.Call (.Name "super" p0) [] [] p1) "__init__" p2) [.Constant (.str text) j p3] [] p4) none p5.line (ksEnv q scope L fI (.ref cda) cc) = pure false)
  bind : ∀ (kV doc pm : Value) (an : Option Addr) (cda : Addr) (ct : Value) (cc : Addr) (us : List Value), us.length = ("self" :: fs : List Str).length → bindArgs (ksFn "__init__" q params body scope .none kV doc pm an (.ref cda) ct cc) ⟨us, []⟩ = pure (("self" :: fs : List Str).zip us)
  hd : ∃ ar : Arg, (params.posonlyargs ++ params.args).head? = some ar ∧ ar.arg = "self"
  nd : ("self" :: fs : List Str).Nodup
  loc : ∀ f ∈ ("self" :: fs : List Str), scope.names.lookup f = some .local ∧ (f == ("__debug__" : Str)) = false
  cell : ∀ x ∈ scope.names, x.2 ≠ .cell
  co : scope.isCoroutine = false
  gen : scope.isGenerator = false
  k : scope.kind = .function
  hks : scope.names.lookup ("super" : Str) = some .globalImplicit
  hkc : scope.names.lookup ("__class__" : Str) = some .free
  few : fs.length ≤ 900
  some_ : fs ≠ []
theorem err_init {R : Result → Shared → Prop} {s : Shared} {fI : Addr} {q : Str} {params : Arguments} {body : List Stmt} {scope : Scope} {fs : List Str} {mg mb : Str → Option Value} (T : ErC prog K C fI q params body scope) (S : IS q params body scope fs) (hno : ∀ f ∈ fs, findIn K (.ref C) f = some none) {x t0 : Addr} {us : List Value} (X : K.In s.heap) (hlim : s.heap.NoLimit)
    (hx : s.heap.get? x = some (excO C t0)) (hnx : K.lookup x = none) (G : s.heap.Ns mainGlobals mg) (Gb : s.heap.Ns builtinsNs mb) (hb : mb "super" = bootBuiltins "super") (hroom : A.depth < recursionLimit) (hl : us.length = fs.length)
    (hq : ∀ h' tk t1 d, (∀ b o, b ≠ x → s.heap.get? b = some o → h'.get? b = some o) → PartE s.heap h' x C t1 (putM fs us (fun _ => none)) (fs.reverse ++ []) (some d) → R (.ok (.ret .none)) { s with heap := h', toks := tk }) :
    codeAny (model prog w) A (.call (.ref fI) ⟨.ref x :: us, []⟩) R s := by
  obtain ⟨oc, od, kV, doc, pm, an, cda, ct, cc, osl, ccl, cdd, vs, ccs, file, tf, cl, cld, csl, lf, hcd, lc, hvs, hfile, lcc⟩ := T.fn
  obtain ⟨text, j, p0, p1, p2, p3, p4, p5, ss, eb, hss, hev⟩ := S.bd
  obtain ⟨ar, har, earg⟩ := S.hd
  have hKl : ∀ a o, K.lookup a = some o → a < s.heap.objs.size := fun a o e => Heap.lt_size (X _ _ e)
  have hkeys : ((("self" :: fs : List Str).zip (.ref x :: us)).map (·.1)).Nodup := by
    rw [List.map_fst_zip (by show fs.length + 1 ≤ us.length + 1; omega)]
    exact S.nd
  obtain ⟨⟨pl, he⟩, hi, hsw⟩ := hev s.heap.objs.size fI cda cc
  have hmg : mg "super" = none := PySem.W.mg_none_of X G T.sg
  refine ks_codeAny_call_defAt (fd := ksFn "__init__" q params body scope .none kV doc pm an (.ref cda) ct cc) (body := body) (binds := ("self" :: fs : List Str).zip (.ref x :: us)) hroom (X _ _ lf) rfl hlim (codeRec_of X hcd) rfl
    (BindsTo.of_eq (S.bind _ _ _ _ _ _ _ _ (by show us.length + 1 = fs.length + 1; omega))) S.cell (fun y hy => (S.loc y.1 (by
      obtain ⟨y1, y2⟩ := y
      exact (List.of_mem_zip hy).1)).1) (fun h₁ hns hk₁ => ?_) S.co S.gen S.k
  have X₁ : K.In h₁ := X.keeps hk₁
  have hself : (("self" :: fs : List Str).zip (Value.ref x :: us)).reverse.lookup ("self" : Str) = some (Value.ref x) := lookup_rev hkeys (by show _ ∈ (("self" : Str), Value.ref x) :: fs.zip us; exact List.mem_cons_self ..)
  show _root_.PySem.wpAt _ _ (.func body (ksEnv q scope s.heap.objs.size fI (.ref cda) cc)) (execs body (ksEnv q scope s.heap.objs.size fI (.ref cda) cc)) _ _ _
  subst eb
  refine ks_wpAt_execs_cons ?_
  refine sup_stmt T lf lc hvs hfile lcc X₁ (G.at fun o q => hk₁ _ _ q) hmg (Gb.at fun o q => hk₁ _ _ q) hb hns (ar := ar) (by rw [earg]; exact hself) (hk₁ _ _ hx) har S.hks S.hkc (by rw [earg]; exact (S.loc "self" (List.mem_cons_self ..)).1) S.k he hi hsw (fun h2 tk2 t1 hns2 k2 hx2 => ?_)
  refine wpAt_of_wpAny ?_
  have L1 : s.heap.objs.size < h₁.objs.size := hns.lt
  refine sets_run (env := ksEnv q scope s.heap.objs.size fI (.ref cda) cc) (h0 := s.heap) T.x S.k rfl (S.loc "self" (List.mem_cons_self ..)).1 hself (Nat.ne_of_gt (Heap.lt_size hx)) hnx hKl (fun dx h => Nat.ne_of_lt h) hss us _ none (fun _ => none) [] hl (by simpa using S.few) (fun f hf => ⟨(S.loc f (List.mem_cons_of_mem _ hf)).1, (S.loc f (List.mem_cons_of_mem _ hf)).2, hno f hf⟩)
    (fun p hp => lookup_rev hkeys (by show p ∈ (("self" : Str), Value.ref x) :: fs.zip us; exact List.mem_cons_of_mem _ hp)) ?_ (kept_but X₁ hnx k2) hns2 ⟨hx2, rfl, rfl⟩ ?_
  · exact hns2.lt
  · intro h' tk d' kk e1 e2 e3 hP
    cases d' with
    | none => exact absurd rfl (e3 S.some_)
    | some d => exact hq h' tk t1 d (fun b o hb h0 => kk b o hb h0 (k2 b o hb (hk₁ b o h0))) hP
structure Made (h h' : Heap) (e C d : Addr) (mA : Str → Option Value) : Prop where
  keep : ∀ b o, h.get? b = some o → h'.get? b = some o
  new : h.objs.size ≤ e
  obj : ∃ oe vs, h'.get? e = some oe ∧ oe.cls = .ref C ∧ oe.dict = some d ∧ oe.data = .fields vs ∧ vs[1]? = some .none
  dbig : h.objs.size ≤ d
  dne : d ≠ e
  ns : h'.Ns1 d mA
theorem err_made {R : Result → Shared → Prop} {s : Shared} {fI : Addr} {q : Str} {params : Arguments} {body : List Stmt} {scope : Scope} {fs : List Str} {mg mb : Str → Option Value} (T : ErC prog K C fI q params body scope) (S : IS q params body scope fs) (hno : ∀ f ∈ fs, findIn K (.ref C) f = some none) {us : List Value} (X : K.In s.heap) (hlim : s.heap.NoLimit)
    (G : s.heap.Ns mainGlobals mg) (Gb : s.heap.Ns builtinsNs mb) (hb : mb "super" = bootBuiltins "super") (hroom : A.depth + 1 < recursionLimit) (hl : us.length = fs.length)
    (hq : ∀ h' tk e d, Made s.heap h' e C d (putM fs us (fun _ => none)) → R (.ok (.ret (.ref e))) { s with heap := h', toks := tk }) :
    codeAny (model prog w) A (.call (.ref C) ⟨us, []⟩) R s := by
  obtain ⟨nm, qn, N, bs, bm, sn, sub, ab, col, dd, k0, k1, k2, k3, k5, hC, hbm⟩ := T.x.cls
  obtain ⟨hp, g, dr, tk, os⟩ := s
  have k : ∀ b o, hp.get? b = some o → ((hp.push (kdv_tup us)).push (excO C hp.objs.size)).get? b = some o := fun b o e => Heap.get?_push_of_some _ (Heap.get?_push_of_some _ e)
  have hget : ((hp.push (kdv_tup us)).push (excO C hp.objs.size)).get? (hp.objs.size + 1) = some (excO C hp.objs.size) := by heap_get
  have hnx : K.lookup (hp.objs.size + 1) = none := by
    cases e : K.lookup (hp.objs.size + 1) with
    | none => rfl
    | some o =>
      have z : hp.get? (hp.objs.size + 1) = some o := X _ _ e
      exact absurd (Nat.lt_of_succ_lt (Heap.lt_size z)) (Nat.lt_irrefl _)
  refine call_own PySem.F.excBase_ValueError (fun X => refsVE_contains X bm hbm) (X _ _ hC) (looks_findIn X T.iC) (fun self => bind_fn X self T.tC) (by rw [hl, sizeLine_eq]; exact Nat.le_trans S.few (by decide)) ?_
  refine err_init (s := ⟨(hp.push (kdv_tup us)).push (excO C hp.objs.size), g, dr, tk, os⟩) T S hno (X.keeps k) (hlim.keeps k) hget hnx (G.at fun o q => k _ _ q) (Gb.at fun o q => k _ _ q) hb ?_ hl fun h' tk' t1 d k' hP => ?_
  · show A.depth + 1 < recursionLimit
    exact hroom
  · obtain ⟨hd, dne, hx, hns, _⟩ := hP
    have old : ∀ b o, hp.get? b = some o → h'.get? b = some o := fun b o e => k' b o (Nat.ne_of_lt (Nat.lt_succ_of_lt (Heap.lt_size e))) (k b o e)
    have z : hp.objs.size + 1 + 1 < d := by
      have q := hd
      first
        | (simpa only [Heap.size_push] using q)
        | exact q
    have z2 : hp.objs.size ≤ d := by omega
    exact ⟨rfl, hq h' tk' (hp.objs.size + 1) d ⟨old, Nat.le_succ _, ⟨_, _, hx, rfl, rfl, rfl, rfl⟩, z2, dne, hns⟩⟩
end
end OwnE
end PySem
namespace Gl
open PySem PySem.Spec PyProof.Rows L2
open PySem.OwnE (ErC IS putM)
def putL : List Str → List V → List (Str × V) → List (Str × V)
  | f :: fs, v :: vs, l => putL fs vs ((f, v) :: l)
  | _, _, l => l
theorem relO_putL : ∀ {fs : List Str} {vs : List V} {us : List Value} {l : List (Str × V)} {mA : Str → Option Value}, Vals vs us → (∀ g, RelO (l.lookup g) (mA g)) → ∀ g, RelO ((putL fs vs l).lookup g) (putM fs us mA g)
  | [], _, _, _, _, _, h => by
    intro g
    unfold putL putM
    exact h g
  | f :: fs, _, _, l, mA, .nil, h => by
    intro g
    unfold putL putM
    exact h g
  | f :: fs, _, _, l, mA, .cons r rs, h => relO_putL (fs := fs) rs (relO_put r h)
def tErr (C : Addr) (fs : List Str) (ta : TA) : L2.St → Hp → XK → Prop := fun σ H Q => ta σ H fun vs H1 => vs.length = fs.length ∧ ∀ d, H1 d = none → Q (.ref C) (some d) (upd H1 d (.xd (putL fs vs [])))
section
variable {X : Cx} {C fI : Addr} {q : Str} {params : Arguments} {body : List Stmt} {scope : Scope} {fs : List Str}
theorem pmk_err {x : Str} {a : Expr} {as : List Expr} {ta : TA} {p pos : Pos} {k : Nat} (T : ErC X.prog X.K C fI q params body scope) (S : IS q params body scope fs) (hno : ∀ f ∈ fs, PySem.W.findIn X.K (.ref C) f = some none) (gC : X.mg x = some (.ref C)) (kC : PySem.W.keepIn X.K (.ref C) = true) (hr : Room (k + 1) X.A) (hg : Gl X x)
    (ha : PA X (a :: as) ta) (hdb : (x == ("__debug__" : Str)) = false := by decide)
    (he : starEach (a :: as) X.env = (false, eval a X.env) :: starEach as X.env := by rfl) (hpl : (backTo pos (starEach as X.env)).any (·.1) = false := by rfl) :
    PMk X (.Call (.Name x p) (a :: as) [] pos) (tErr C fs ta) := by
  intro pins s σ H Q I h
  refine wpAny_Call_Name_kw (ld_glob I hg gC ?_ hdb)
  refine PySem.W.callWith_K (h₀ := X.base) I.ok.mod.kin kC (thn (ha.run pos pins s σ H _ I h) fun us s1 hh => ?_) he hpl
  obtain ⟨vs, H1, I1, r1, hl, q1⟩ := hh
  refine ⟨I1.kIn, ?_⟩
  show wpAny _ _ (call (.ref C) us) _ _ _
  have hlim := I1.nolimit
  obtain ⟨mb, Gb, hmb⟩ := I1.ok.mod.blt
  have hG : s1.heap.Ns mainGlobals X.mg := I1.ok.mod.glob.keeps I1.bk
  have hB : s1.heap.Ns builtinsNs mb := Gb.keeps I1.bk
  obtain ⟨hp, g, dr, tk, os⟩ := s1
  refine wpAny_call (PySem.OwnE.err_made T S hno I1.kIn hlim hG hB (hmb _ (by decide)) (by have := hr.dp; omega) (by rw [← r1.length]; exact hl) fun h' tk' e d M => ?_)
  show MkP X pins σ Q (.ref e) ⟨h', g, dr, tk', os⟩
  obtain ⟨oe, fv, hoe, hc, hd, hdat, h1⟩ := M.obj
  have hns := M.ns
  obtain ⟨G', g1, g2⟩ := restrict h' fun b => decide (b ≠ e)
  have gk : ∀ b, b ≠ e → G'.get? b = h'.get? b := fun b hb => g1 b (decide_eq_true hb)
  have ge : G'.get? e = none := g2 e (by simp)
  have old : ∀ b o, hp.get? b = some o → G'.get? b = some o := fun b o q => (gk b (Nat.ne_of_lt (Nat.lt_of_lt_of_le (Heap.lt_size q) M.new))).trans (M.keep b o q)
  have ob : ObjOk X.prog X.w (upd H1 d (.xd (putL fs vs []))) G' d (.xd (putL fs vs [])) :=
    ⟨_, hns.at (fun o q => (gk d M.dne).trans q), relO_putL r1 fun g => trivial⟩
  have J : Inv X pins σ (upd H1 d (.xd (putL fs vs []))) ⟨G', g, dr, tk', os⟩ := I1.laid (t' := tk') old M.dbig ob
  refine ⟨e, oe, fv, ⟨G', g, dr, tk', os⟩, _, .ref C, some d, rfl, J, fun b o q => ?_, ge, hoe, ⟨hc, hd⟩, hdat, h1, ?_, rfl, I1.bare, raises_own T.x.exC T.x.tyC, q1 d (I1.hok.fresh M.dbig)⟩
  · by_cases hb : b = e
    · have q' : G'.get? b = some o := q
      rw [hb, ge] at q'; cases q'
    · exact (gk b hb).symm.trans q
  · rw [upd_ne (Ne.symm M.dne)]
    exact I1.hok.fresh M.new
end
end Gl
namespace Gl
open PySem PySem.Spec PyProof.Rows L2
open PySem.OwnE (ErC IS putM)
open He (ga ma)
def ccOf (K : PySem.W.Frag) (x : Str) : Addr := match K.lookup (ma K (ga K x) "__init__") with
  | some ⟨_, _, .func fd, _⟩ => (match fd.closure with
    | [p] => p.2
    | _ => 0)
  | _ => 0
def clsE (K : PySem.W.Frag) (C : Addr) : Bool := match K.lookup C with
  | some ⟨.type t, _, .cls cd, sl⟩ => decide (t = "type") && ((match cd.mro, sl.toList with
    | .ref C' :: bm, [_, _, _, _, some (.builtin n), _] => decide (C' = C) && (decide (n = "ValueError.__new__") && (!cd.hasDel && (cd.hasDict && PySem.HandSPX.refsVE bm)))
    | _, _ => false))
  | _ => false
theorem clsE_ok {K : PySem.W.Frag} {C : Addr} (h : clsE K C = true) : ∃ nm q N bs bm sn sub ab col dd k0 k1 k2 k3 k5, K.lookup C = some (excClassObj nm q C N bs bm true sn sub ab col dd k0 k1 k2 k3 k5 "ValueError.__new__") ∧ PySem.HandSPX.refsVE bm = true := by
  unfold clsE at h
  split at h
  · rename_i t dd cd sl ho
    obtain ⟨h0, h⟩ := He.ba h
    split at h
    · rename_i C' bm k0 k1 k2 k3 n k5 hm hs
      obtain ⟨h1, h⟩ := He.ba h
      obtain ⟨h2, h⟩ := He.ba h
      obtain ⟨h3, h⟩ := He.ba h
      obtain ⟨h4, h5⟩ := He.ba h
      have e1 := of_decide_eq_true h1
      have e2 := of_decide_eq_true h2
      have e0 := of_decide_eq_true h0
      subst e1 e2 e0
      obtain ⟨nm, bs, mro, ns, qn, hd, sn, sub, ab, col, del⟩ := cd
      dsimp only at hm h3 h4
      have h3' : del = false := by simpa using h3
      subst hm h3' h4
      have hsl : sl = #[k0, k1, k2, k3, some (.builtin "ValueError.__new__"), k5] := by
        obtain ⟨l⟩ := sl
        simp only at hs
        rw [hs]
      subst hsl
      exact ⟨_, _, _, _, _, _, _, _, _, _, _, _, _, _, _, ho, h5⟩
    · cases h
  · cases h
def fnE (P : Program) (K : PySem.W.Frag) (x q : Str) : Bool := match K.lookup (ma K (ga K x) "__init__") with
  | some ⟨_, _, .func fd, _⟩ => PySem.W.codeIn K fd.code q && ((decide (fd.defaults = .none)) && (match fd.code with
    | .ref cda => (match K.lookup cda with
      | some ⟨_, _, .fields vs, _⟩ => (match (vs[2]? : Option Value) with
        | some (Value.str file _) => ((P.main.file : Str) == file)
        | _ => false)
      | _ => false)
    | _ => false) && (match K.lookup (ccOf K x) with
      | some ⟨_, _, .cell (some (.ref D)), _⟩ => decide (D = ga K x)
      | _ => false))
  | _ => false
def errB (P : Program) (K : PySem.W.Frag) (x q : Str) (fs : List Str) : Bool :=
  clsE K (ga K x) && (He.eqO (PySem.W.findIn K (.ref (ga K x)) "__setattr__") (some (some (.builtin "object.__setattr__"))) && (decide (PySem.W.subIn K (.ref (ga K x)) (.type "BaseException") = some true) && (decide (PySem.W.typeIn K (.ref (ga K x)) = some (.type "type")) && (PySem.W.keepIn K (.ref (ga K x)) &&
  (He.eqO (PySem.W.findIn K (.ref (ga K x)) "__init__") (some (some (.ref (ma K (ga K x) "__init__")))) && (decide (PySem.W.typeIn K (.ref (ma K (ga K x) "__init__")) = some (.type "function")) && (He.eqO (PySem.W.ks_superIn K (ga K x) (ga K x) "__init__") (some (some (.builtin "ValueError.__init__"))) &&
  (decide (PySem.W.subIn K (.ref (ga K x)) (.type "ValueError") = some true) && (decide (PySem.W.mroIn K (ga K x) (.ref (ga K x)) = some true) && (He.eqO (PySem.W.nsIn K cStatics "thirdparty.any") (some none) && (He.eqO (PySem.W.nsIn K mainGlobals "super") (some none) && (!(P.main.scope.names.lookup ("super" : Str)).isSome &&
  (fs.all (fun f => He.eqO (PySem.W.findIn K (.ref (ga K x)) f) (some none)) && (fnE P K x q &&
  (He.eqO (PySem.W.findIn K (.ref (ga K x)) "__getattribute__") (some (some (.builtin "BaseException.__getattribute__"))) && (He.eqO (PySem.W.findIn K (.ref (ga K x)) "__getattr__") (some none) && (PySem.W.hasDictIn K (ga K x) && He.eqO (PySem.W.nsIn K mainGlobals x) (some (some (.ref (ga K x)))))))))))))))))))))
structure Er (P : Program) (K : PySem.W.Frag) (mg : Str → Option Value) (x q : Str) (params : Arguments) (body : List Stmt) (scope : Scope) (fs : List Str) : Prop where
  c : ErC P K (ga K x) (ma K (ga K x) "__init__") q params body scope
  no : ∀ f ∈ fs, PySem.W.findIn K (.ref (ga K x)) f = some none
  xf : XfC K (ga K x)
  g : mg x = some (.ref (ga K x))
  k : PySem.W.keepIn K (.ref (ga K x)) = true
theorem er_ok {P : Program} {K : PySem.W.Frag} {h : Heap} {mg : Str → Option Value} {x q : Str} {params : Arguments} {body : List Stmt} {scope : Scope} {fs : List Str} (X : K.In h) (G : h.Ns mainGlobals mg) (c : errB P K x q fs = true)
    (e : He.fnW K (x, some "__init__") = some (("__init__" : Str), q, params, FuncBody.stmts body, scope, mainGlobals, [(("__class__" : Str), ccOf K x)], builtinsNs)) : Er P K mg x q params body scope fs := by
  unfold errB at c
  obtain ⟨c1, c⟩ := He.ba c
  obtain ⟨c2, c⟩ := He.ba c
  obtain ⟨c3, c⟩ := He.ba c
  obtain ⟨c4, c⟩ := He.ba c
  obtain ⟨c5, c⟩ := He.ba c
  obtain ⟨c6, c⟩ := He.ba c
  obtain ⟨c7, c⟩ := He.ba c
  obtain ⟨c8, c⟩ := He.ba c
  obtain ⟨c9, c⟩ := He.ba c
  obtain ⟨c10, c⟩ := He.ba c
  obtain ⟨c11, c⟩ := He.ba c
  obtain ⟨c12, c⟩ := He.ba c
  obtain ⟨c13, c⟩ := He.ba c
  obtain ⟨c14, c⟩ := He.ba c
  obtain ⟨c15, c⟩ := He.ba c
  obtain ⟨c16, c⟩ := He.ba c
  obtain ⟨c17, c⟩ := He.ba c
  obtain ⟨c18, c19⟩ := He.ba c
  have d3 := of_decide_eq_true c3
  have d4 := of_decide_eq_true c4
  refine ⟨⟨⟨clsE_ok c1, He.eqO_ok c2, d3, d4, c5⟩, He.eqO_ok c6, of_decide_eq_true c7, He.eqO_ok c8, of_decide_eq_true c9, of_decide_eq_true c10, He.eqO_ok c11, He.eqO_ok c12, by simpa using c13, ?_⟩,
    fun f hf => He.eqO_ok (List.all_eq_true.mp c14 f hf), ⟨He.eqO_ok c16, He.eqO_ok c17, d3, c18⟩, PySem.W.mg_of X G (He.eqO_ok c19), c5⟩
  unfold fnE at c15
  unfold He.fnW at e
  have ea : He.fAd K (x, some "__init__") = ma K (ga K x) "__init__" := rfl
  rw [ea] at e
  cases hl : K.lookup (ma K (ga K x) "__init__") with
  | none =>
    rw [hl] at e
    cases e
  | some o =>
    obtain ⟨oc, od, dt, osl⟩ := o
    rw [hl] at c15 e
    cases dt with
    | func fd =>
      obtain ⟨n1, n2, n3, n4, n5, n6, n7, n8, n9, n10, n11, n12, n13, n14, n15⟩ := fd
      have e2 : (some (n1, n2, n3, n4, n5, n6, n7, n15) : He.FnW) = some (("__init__" : Str), q, params, FuncBody.stmts body, scope, mainGlobals, [(("__class__" : Str), ccOf K x)], builtinsNs) := e
      simp only [Option.some.injEq, Prod.mk.injEq] at e2
      obtain ⟨h1, h2, h3, h4, h5, h6, h7, h8⟩ := e2
      subst h1 h2 h3 h4 h5 h6 h7 h8
      dsimp only at c15
      obtain ⟨k1, k2⟩ := He.ba c15
      obtain ⟨k3, k4⟩ := He.ba k2
      obtain ⟨k0, k3⟩ := He.ba k3
      have k0 : n8 = Value.none := of_decide_eq_true k0
      subst k0
      cases n13 with
      | ref cda =>
        dsimp only at k3
        cases hc : K.lookup cda with
        | none =>
          rw [hc] at k3
          cases k3
        | some oc2 =>
          obtain ⟨ccl, cdd, cdt, ccs⟩ := oc2
          rw [hc] at k3
          cases cdt with
          | fields vs =>
            dsimp only at k3
            cases hv : vs[2]? with
            | none =>
              rw [hv] at k3
              cases k3
            | some v =>
              rw [hv] at k3
              cases v with
              | str file tf =>
                cases hcc : K.lookup (ccOf K x) with
                | none =>
                  rw [hcc] at k4
                  cases k4
                | some o3 =>
                  obtain ⟨cl, cld, cdt3, csl⟩ := o3
                  rw [hcc] at k4
                  cases cdt3 with
                  | cell u =>
                    cases u with
                    | none => cases k4
                    | some u =>
                      cases u with
                      | ref D =>
                        have eD : D = ga K x := of_decide_eq_true k4
                        rw [eD] at hcc
                        exact ⟨oc, od, n9, n10, n11, n12, cda, n14, ccOf K x, osl, ccl, cdd, vs, ccs, file, tf, cl, cld, csl, rfl, k1, hc, hv, k3, hcc⟩
                      | _ => cases k4
                  | _ => cases k4
              | _ => cases k3
          | _ => cases k3
      | _ => cases k3
    | _ => cases c15
end Gl
namespace Gl
open PySem PySem.Spec PyProof.Rows L2
class NotNone {α : Type} {A : R α} (D : Dat A) : Prop where
  l : ∀ a, PyData.eqv (D.d a) .none = false
  r : ∀ a, PyData.eqv .none (D.d a) = false
instance : NotNone dI := ⟨fun _ => rfl, fun _ => rfl⟩
instance : NotNone dB := ⟨fun _ => rfl, fun _ => rfl⟩
instance : NotNone dS := ⟨fun _ => rfl, fun _ => rfl⟩
instance {α : Type} {A : R α} {D : Dat A} : NotNone (dL D) := ⟨fun _ => rfl, fun _ => rfl⟩
instance {α : Type} {A : R α} {D : Dat A} : NotNone (dT D) := ⟨fun _ => rfl, fun _ => rfl⟩
instance {α β : Type} {A : R α} {B : R β} {D : Dat A} {E : Dat B} : NotNone (d2 D E) := ⟨fun _ => rfl, fun _ => rfl⟩
def dO {α : Type} {A : R α} (D : Dat A) [N : NotNone D] : Dat (qO A) := ⟨fun
    | none => .none
    | some a => D.d a, fun {K F v a} h => by
    cases a with
    | none => cases (show v = .non from h); exact .non
    | some a => exact D.dp h, fun a b => by
    cases a with
    | none => cases b with
      | none => simp [PyData.eqv]
      | some b =>
        show PyData.eqv .none (D.d b) = true ↔ _
        rw [N.r b]; simp
    | some a => cases b with
      | none =>
        show PyData.eqv (D.d a) .none = true ↔ _
        rw [N.l a]; simp
      | some b =>
        show PyData.eqv (D.d a) (D.d b) = true ↔ _
        rw [D.eq]; simp⟩

def MOk (X : Cx) (m : Str) (C : Addr) (sp : Sp) (E : XK) : Prop := ∃ (f : Addr) (k : Nat) (fd : FuncData) (ps : List Str) (CX : CXT), Cls X.K C ∧ Meth X.K C m f ∧ FnOk X.prog X.w X.K X.mg X.base CX k f fd ps sp ∧ Room k X.A ∧ Binds X.K fd ps [] ∧ Passes CX X E
def mvK (X : Cx) (m : Str) (E : XK) (t : (List V → Hp → Prop) → Hp → Prop) (Q : VK) : VK := fun x H1 => ∃ a dx fs C sp, x = .ref a ∧ H1 a = some (.ins C dx fs) ∧ fs.lookup m = none ∧ MOk X m C sp E ∧ t (fun vs H2 => sp (x :: vs) H2 Q E) H1
def tMethV (X : Cx) (m : Str) (E : XK) (ta : TE) (t : TA) : TE := fun σ H Q => ta σ H (mvK X m E (fun q H1 => t σ H1 q) Q)
section
variable {X : Cx} {o e : Expr} {es : List Expr} {m : Str} {ta : TE} {t : TA} {E : XK} {apos pos : Pos}
theorem pe_methV {pl : Sem Bool} (he : PE X o ta) (ha : PA X (e :: es) t)
    (hst : starEach (e :: es) X.env = (false, eval e X.env) :: starEach es X.env := by rfl) (hpl : (backTo pos (starEach es X.env)).any (·.1) = false := by rfl)
    (ht : eval (.Call (.Attribute o m apos) (e :: es) [] pos) X.env = (do
      let ov ← eval o X.env
      standAt apos.atName
      let (f, first) ← holding [ov] (getMethod ov m pl)
      callWith pos f first (backTo pos (starEach (e :: es) X.env)) (backToKw pos (keywordEach [] X.env))) := by rfl) :
    PE X (.Call (.Attribute o m apos) (e :: es) [] pos) (tMethV X m E ta t) := by
  refine ⟨fun pins s σ H Q I h => ?_⟩
  refine PySem.W.methodCall_KW (pl := pl) (thn (he.run pins s σ H _ I h) fun u s1 ⟨x, H1, I1, rx, a, dx, fs, C, sp, ex, ea, l, ⟨f, k, fd, ps, CX, c, hm, F, hr, hb, hx⟩, q⟩ => ?_) ht
  subst ex
  obtain rfl : u = Value.ref a := rx
  refine getmeth_ok I1 ea c hm l ?_
  refine PySem.W.callWith_K (first := [.ref a]) (h₀ := X.base) I.ok.mod.kin hm.kp (thn (ha.run pos pins s1 σ H1 _ I1 q) fun us s2 ⟨vs, H2, I2, r, q2⟩ => ⟨I2.kIn, ?_⟩) hst hpl
  exact run_fn (us := .ref a :: us) (vs := .ref a :: vs) (dvs := []) (ds := []) F hr hb .nil hx I2 (.cons rfl r) (by rw [List.append_nil]; exact q2)
theorem pe_methV0 {pl : Sem Bool} (he : PE X o ta)
    (ht : eval (.Call (.Attribute o m apos) [] [] pos) X.env = (do
      let ov ← eval o X.env
      standAt apos.atName
      let (f, first) ← holding [ov] (getMethod ov m pl)
      callWith pos f first (backTo pos (starEach [] X.env)) (backToKw pos (keywordEach [] X.env))) := by rfl) :
    PE X (.Call (.Attribute o m apos) [] [] pos) (tMethV X m E ta tNil) := by
  refine ⟨fun pins s σ H Q I h => ?_⟩
  refine PySem.W.methodCall_KW (pl := pl) (thn (he.run pins s σ H _ I h) fun u s1 ⟨x, H1, I1, rx, a, dx, fs, C, sp, ex, ea, l, ⟨f, k, fd, ps, CX, c, hm, F, hr, hb, hx⟩, q⟩ => ?_) ht
  subst ex
  obtain rfl : u = Value.ref a := rx
  refine getmeth_ok I1 ea c hm l ?_
  exact PySem.W.callWith_K0 (first := [.ref a]) I1.kIn hm.kp (run_fn (us := [.ref a]) (vs := [.ref a]) (dvs := []) (ds := []) F hr hb .nil hx I1 (.cons rfl .nil) q)
theorem rd_methV {σ : L2.St} {H : Hp} {Q : VK} (k : ta σ H (mvK X m E (fun q H1 => t σ H1 q) Q)) : tMethV X m E ta t σ H Q := k
end
inductive Pat where
  | form (ps : List Str) | both (l r : Pat) | either (l r : Pat)
  deriving DecidableEq
def Pat.forms : Pat → List (List Str)
  | .form ps => [ps]
  | .both l r => l.forms ++ r.forms
  | .either l r => l.forms ++ r.forms
def Pat.ht : Pat → Nat
  | .form _ => 0
  | .both l r => max l.ht r.ht + 1
  | .either l r => max l.ht r.ht + 1
def ownOpB (K : PySem.W.Frag) (x : Str) (nm : String) (f : Addr) : Bool := PySem.W.selfFirst K (He.ga K x) && (He.eqO (PySem.W.findIn K (.ref (He.ga K x)) (PySem.dunder nm)) (some (some (.ref f))) && (PySem.W.isFn K (.ref f) && He.eqO (PySem.W.findIn K (.ref (He.ga K x)) (dunderR nm)) (some none)))
theorem ownOpB_ok {K : PySem.W.Frag} {x : Str} {nm : String} {f : Addr} (h : ownOpB K x nm f = true) : OwnOp K (He.ga K x) nm f := by
  unfold ownOpB at h
  obtain ⟨h1, h⟩ := He.ba h
  obtain ⟨h2, h⟩ := He.ba h
  obtain ⟨h3, h4⟩ := He.ba h
  exact ⟨h1, He.eqO_ok h2, h3, He.eqO_ok h4⟩
def apartB (K : PySem.W.Frag) (x y : Str) : Bool := decide (He.ga K x = He.ga K y) || decide (PySem.W.subIn K (.ref (He.ga K y)) (.ref (He.ga K x)) = some false)
theorem apartB_ok {K : PySem.W.Frag} {x y : Str} (h : apartB K x y = true) : He.ga K x = He.ga K y ∨ PySem.W.subIn K (.ref (He.ga K y)) (.ref (He.ga K x)) = some false := by
  unfold apartB at h
  rcases Bool.or_eq_true_iff.mp h with h | h
  · exact .inl (of_decide_eq_true h)
  · exact .inr (of_decide_eq_true h)
def isaB (K : PySem.W.Frag) (x y : Str) (b : Bool) : Bool := decide (PySem.W.kitOne K (.ref (He.ga K x)) (.ref (He.ga K y)) = some b)
theorem isaB_ok {K : PySem.W.Frag} {x y : Str} {b : Bool} (h : isaB K x y b = true) : PySem.W.kitOne K (.ref (He.ga K x)) (.ref (He.ga K y)) = some b := of_decide_eq_true h

def qForm : R (List Str) := ⟨fun K F v a => ∃ (p dx : Addr) (u0 : V), v = .ref p ∧ F p = some (.ins (He.ga K "Form") dx [("pieces", u0)]) ∧ (qT qS).r K F u0 a, fun e ⟨p, dx, u0, h1, h2, k0⟩ => ⟨p, dx, u0, h1, e _ _ h2, (qT qS).mono e k0⟩⟩
def qPatR (K : PySem.W.Frag) (F : Hp) : V → Pat → Prop
  | v, .form ps => qForm.r K F v ps
  | v, .both l r => ∃ (p dx : Addr) (u w : V), v = .ref p ∧ F p = some (.ins (He.ga K "Both") dx [("left", u), ("right", w)]) ∧ qPatR K F u l ∧ qPatR K F w r
  | v, .either l r => ∃ (p dx : Addr) (u w : V), v = .ref p ∧ F p = some (.ins (He.ga K "Either") dx [("left", u), ("right", w)]) ∧ qPatR K F u l ∧ qPatR K F w r
theorem qPatR_mono {K : PySem.W.Frag} {F F' : Hp} (e : Same F F') : ∀ {v : V} {a : Pat}, qPatR K F v a → qPatR K F' v a
  | _, .form _, h => qForm.mono e h
  | _, .both _ _, ⟨p, dx, u, w, h1, h2, h3, h4⟩ => ⟨p, dx, u, w, h1, e _ _ h2, qPatR_mono e h3, qPatR_mono e h4⟩
  | _, .either _ _, ⟨p, dx, u, w, h1, h2, h3, h4⟩ => ⟨p, dx, u, w, h1, e _ _ h2, qPatR_mono e h3, qPatR_mono e h4⟩
def qPat : R Pat := ⟨fun K F v a => qPatR K F v a, fun e h => qPatR_mono e h⟩
def Pat.cls : Pat → Str
  | .form _ => "Form"
  | .both _ _ => "Both"
  | .either _ _ => "Either"
def Pat.holds : Pat → List Bool → Option Bool
  | .form _, t => atI t 0
  | .both l r, t => (l.holds (cut t none (some (l.forms.length : Int)))).bind fun b => if b = true then r.holds (cut t (some (l.forms.length : Int)) none) else some false
  | .either l r, t => (l.holds (cut t none (some (l.forms.length : Int)))).bind fun b => if b = true then some true else r.holds (cut t (some (l.forms.length : Int)) none)
def patN {α : Type} (n : Nat) (a : Pat) (x : Option α) : Option α := gd (decide (a.ht ≤ n)) <| gd (decide (a.forms.length ≤ 16)) x
def m_pat_forms (a : Pat) : Option (List (List Str)) := patN 3 a (some a.forms)
def m_pat_holds (a : Pat) (t : List Bool) : Option Bool := patN 3 a (a.holds t)
theorem patN_some {α : Type} {n : Nat} {a : Pat} {x : Option α} {r : α} (h : patN n a x = some r) : a.ht ≤ n ∧ a.forms.length ≤ 16 ∧ x = some r := by
  obtain ⟨h1, h⟩ := gd_some h
  obtain ⟨h2, h⟩ := gd_some h
  exact ⟨of_decide_eq_true h1, of_decide_eq_true h2, h⟩
theorem patN_of {α : Type} {n : Nat} {a : Pat} {x : Option α} (h1 : a.ht ≤ n) (h2 : a.forms.length ≤ 16) : patN n a x = x := by
  unfold patN
  rw [gd_true (decide_eq_true h1), gd_true (decide_eq_true h2)]
def isPatC (x : Str) : Prop := x = "Form" ∨ x = "Both" ∨ x = "Either"
theorem Pat.isC (a : Pat) : isPatC a.cls := by
  cases a with
  | form => exact .inl rfl
  | both => exact .inr (.inl rfl)
  | either => exact .inr (.inr rfl)
structure VM (P : Program) (w : World) (K : PySem.W.Frag) (mg : Str → Option Value) (base : Heap) (k : Nat) (m : Str) (ps : List Str) (sp : Str → Sp) : Prop where
  go : ∀ x, isPatC x → Cls K (He.ga K x) ∧ Meth K (He.ga K x) m (He.fAd K (x, some m)) ∧ FnOk P w K mg base CX0 k (He.fAd K (x, some m)) (fdOf K (x, some m)) ps (sp x) ∧ Binds K (fdOf K (x, some m)) ps []
theorem qPat_ins {K : PySem.W.Frag} {F H : Hp} {v : V} {a : Pat} (r : qPat.r K F v a) (s : Same F H) : ∃ p dx fs, v = .ref p ∧ H p = some (.ins (He.ga K a.cls) dx fs) ∧ ∀ m : Str, m ≠ "pieces" → m ≠ "left" → m ≠ "right" → fs.lookup m = none := by
  cases a with
  | form ps =>
    obtain ⟨p, dx, u0, h1, h2, _⟩ := (show qForm.r K F v ps from r)
    exact ⟨p, dx, _, h1, s _ _ h2, fun m n1 n2 n3 => by simp [List.lookup, beq_eq_false_iff_ne.mpr n1]⟩
  | both l r' =>
    obtain ⟨p, dx, u, w, h1, h2, _⟩ := (show qPatR K F v (.both l r') from r)
    exact ⟨p, dx, _, h1, s _ _ h2, fun m n1 n2 n3 => by simp [List.lookup, beq_eq_false_iff_ne.mpr n2, beq_eq_false_iff_ne.mpr n3]⟩
  | either l r' =>
    obtain ⟨p, dx, u, w, h1, h2, _⟩ := (show qPatR K F v (.either l r') from r)
    exact ⟨p, dx, _, h1, s _ _ h2, fun m n1 n2 n3 => by simp [List.lookup, beq_eq_false_iff_ne.mpr n2, beq_eq_false_iff_ne.mpr n3]⟩
section
variable {X : Cx} {k : Nat} {m : Str} {ps : List Str} {sp : Str → Sp} {F H F0 H0 : Hp} {P' : Addr → Prop} {v : V} {a : Pat} {Q : VK} {t : (List V → Hp → Prop) → Hp → Prop} {E : XK}
theorem VM.call (V : VM X.prog X.w X.K X.mg X.base k m ps sp) (hr : Room k X.A) (S : Sx P' F0 H0 F H) (r : qPat.r X.K F v a) (kt : t (fun vs H2 => sp a.cls (v :: vs) H2 Q E) H)
    (n1 : m ≠ "pieces" := by decide) (n2 : m ≠ "left" := by decide) (n3 : m ≠ "right" := by decide) : mvK X m E t Q v H := by
  obtain ⟨p, dx, fs, rfl, h2, h3⟩ := qPat_ins r S.sub
  obtain ⟨c, me, F, b⟩ := V.go a.cls a.isC
  exact ⟨p, dx, fs, _, sp a.cls, rfl, h2, h3 m n1 n2 n3, ⟨_, k, _, ps, CX0, c, me, F, hr, b, pass0⟩, kt⟩
end
def sp_pat_forms (n : Nat) (x : Str) (K : PySem.W.Frag) : Sp := fun vs H Q _ => ∃ (F : Hp) (v_self : V) (a_self : Pat) (r : List (List Str)), vs = [v_self] ∧ Same F H ∧ qPat.r K F v_self a_self ∧ a_self.cls = x ∧ patN n a_self (some a_self.forms) = some r ∧ ∀ v F' H', Sx P0 F H F' H' → (qL qForm).r K F' v r → Q v H'
def sp_pat_holds (n : Nat) (x : Str) (K : PySem.W.Frag) : Sp := fun vs H Q _ => ∃ (F : Hp) (v_self : V) (a_self : Pat) (v_truths : V) (a_truths : List Bool) (r : Bool), vs = [v_self, v_truths] ∧ Same F H ∧ qPat.r K F v_self a_self ∧ a_self.cls = x ∧ (qL qB).r K F v_truths a_truths ∧ patN n a_self (a_self.holds a_truths) = some r ∧ ∀ v F' H', Sx P0 F H F' H' → qB.r K F' v r → Q v H'

structure InsF (K : PySem.W.Frag) (C : Addr) : Prop where
  ha : PySem.W.findIn K (.ref C) "__class__" = some (some (.builtin "object.__class__"))
  hn : PySem.W.specialIn K (.builtin "object.__class__") "__get__" = some (some (.builtin "getset_descriptor.__get__"))
  htk : PySem.W.takesIn K (.builtin "object.__class__") = some true
  hm : PySem.W.mroIn K C (.type "object") = some true
def insB (K : PySem.W.Frag) (C : Addr) : Bool := He.eqO (PySem.W.findIn K (.ref C) "__class__") (some (some (.builtin "object.__class__"))) && (decide (PySem.W.specialIn K (.builtin "object.__class__") "__get__" = some (some (.builtin "getset_descriptor.__get__"))) && (decide (PySem.W.takesIn K (.builtin "object.__class__") = some true) && decide (PySem.W.mroIn K C (.type "object") = some true)))
theorem insB_ok {K : PySem.W.Frag} {C : Addr} (h : insB K C = true) : InsF K C := by
  unfold insB at h
  obtain ⟨h1, h⟩ := He.ba h
  obtain ⟨h2, h⟩ := He.ba h
  obtain ⟨h3, h4⟩ := He.ba h
  exact ⟨He.eqO_ok h1, of_decide_eq_true h2, of_decide_eq_true h3, of_decide_eq_true h4⟩
structure PatF (K : PySem.W.Frag) : Prop where
  cls : ∀ x, isPatC x → Cls K (He.ga K x)
  ins : ∀ x, isPatC x → InsF K (He.ga K x)
  isa : ∀ x, isPatC x → PySem.W.kitOne K (.ref (He.ga K x)) (.ref (He.ga K "Pattern")) = some true
  and_ : ∀ x, isPatC x → OwnOp K (He.ga K x) "and" (He.fAd K ("Pattern", some "__and__"))
  or_ : ∀ x, isPatC x → OwnOp K (He.ga K x) "or" (He.fAd K ("Pattern", some "__or__"))
  ap : ∀ x y, isPatC x → isPatC y → He.ga K x = He.ga K y ∨ PySem.W.subIn K (.ref (He.ga K y)) (.ref (He.ga K x)) = some false
def patCs : List Str := ["Form", "Both", "Either"]
theorem patCs_mem {x : Str} (h : isPatC x) : x ∈ patCs := by
  rcases h with rfl | rfl | rfl <;> simp [patCs]
def patB (K : PySem.W.Frag) : Bool := patCs.all fun x => insB K (He.ga K x) && (isaB K x "Pattern" true && (ownOpB K x "and" (He.fAd K ("Pattern", some "__and__")) && (ownOpB K x "or" (He.fAd K ("Pattern", some "__or__")) && patCs.all (apartB K x))))
theorem patB_ok {K : PySem.W.Frag} (h : patB K = true) (c1 : Cls K (He.ga K "Form")) (c2 : Cls K (He.ga K "Both")) (c3 : Cls K (He.ga K "Either")) : PatF K := by
  have z := fun x (hx : isPatC x) => List.all_eq_true.mp h x (patCs_mem hx)
  refine ⟨fun x hx => ?_, fun x hx => ?_, fun x hx => ?_, fun x hx => ?_, fun x hx => ?_, fun x y hx hy => ?_⟩
  · rcases hx with rfl | rfl | rfl
    · exact c1
    · exact c2
    · exact c3
  · exact insB_ok (He.ba (z x hx)).1
  · exact isaB_ok (He.ba (He.ba (z x hx)).2).1
  · exact ownOpB_ok (He.ba (He.ba (He.ba (z x hx)).2).2).1
  · exact ownOpB_ok (He.ba (He.ba (He.ba (He.ba (z x hx)).2).2).2).1
  · exact apartB_ok (List.all_eq_true.mp (He.ba (He.ba (He.ba (He.ba (z x hx)).2).2).2).2 y (patCs_mem hy))
section
variable {K : PySem.W.Frag} {F H F0 H0 : Hp} {P' : Addr → Prop} {v w : V} {a b : Pat} {Q : VK} {sp : Sp} {E : XK}
theorem tx_pat (T : PatF K) (S : Sx P' F0 H0 F H) (r : qPat.r K F v a) : TyX K H v (.ref (He.ga K a.cls)) := by
  obtain ⟨p, dx, fs, rfl, h2, h3⟩ := qPat_ins r S.sub
  obtain ⟨i1, i2, i3, i4⟩ := T.ins a.cls a.isC
  exact .base (.ins h2 (T.cls a.cls a.isC) i1 i2 i3 i4)
theorem rd_isPat (T : PatF K) (S : Sx P' F0 H0 F H) (r : qPat.r K F v a) (k : Q (.bl true) H) : rIsi K [v, .ref (He.ga K "Pattern")] H Q :=
  ⟨v, _, _, _, true, rfl, .own _, tx_pat T S r, T.isa a.cls a.isC, k⟩
theorem pat_op {nm : String} {f : Addr} (o : ∀ x, isPatC x → OwnOp K (He.ga K x) nm f) (T : PatF K) (S : Sx P' F0 H0 F H) (r : qPat.r K F v a) (r2 : qPat.r K F w b) (k : sp [v, w] H Q E) : rBinO K nm f sp E v w H Q := by
  obtain ⟨p, dx, fs, rfl, h2, h3⟩ := qPat_ins r S.sub
  obtain ⟨q, dy, gs, rfl, h5, h6⟩ := qPat_ins r2 S.sub
  exact ⟨p, q, _, _, dx, dy, fs, gs, f, rfl, rfl, h2, h5, o a.cls a.isC, o b.cls b.isC, T.ap a.cls b.cls a.isC b.isC, k⟩
theorem pat_and (T : PatF K) (S : Sx P' F0 H0 F H) (r : qPat.r K F v a) (r2 : qPat.r K F w b) (k : sp [v, w] H Q E) : rBinO K "and" (He.fAd K ("Pattern", some "__and__")) sp E v w H Q := pat_op T.and_ T S r r2 k
theorem pat_or (T : PatF K) (S : Sx P' F0 H0 F H) (r : qPat.r K F v a) (r2 : qPat.r K F w b) (k : sp [v, w] H Q E) : rBinO K "or" (He.fAd K ("Pattern", some "__or__")) sp E v w H Q := pat_op T.or_ T S r r2 k
end
class NN {α : Type} (A : R α) : Prop where
  n : ∀ {K : PySem.W.Frag} {F : Hp} {v : V} {a : α}, A.r K F v a → v ≠ .non
instance : NN qI := ⟨fun h => by cases (show _ = V.int _ from h); exact fun z => nomatch z⟩
instance : NN qS := ⟨fun h => by cases (show _ = V.str _ from h); exact fun z => nomatch z⟩
instance : NN qB := ⟨fun h => by cases (show _ = V.bl _ from h); exact fun z => nomatch z⟩
instance {α : Type} {A : R α} : NN (qL A) := ⟨fun ⟨p, vs, h, _⟩ => by subst h; exact fun z => nomatch z⟩
instance {α : Type} {A : R α} : NN (qT A) := ⟨fun ⟨p, vs, h, _⟩ => by subst h; exact fun z => nomatch z⟩
instance {α β : Type} {A : R α} {B : R β} : NN (q2 A B) := ⟨fun ⟨p, u, w, h, _⟩ => by subst h; exact fun z => nomatch z⟩
instance {α β γ : Type} {A : R α} {B : R β} {C : R γ} : NN (q3 A B C) := ⟨fun ⟨p, u, w, z, h, _⟩ => by subst h; exact fun z => nomatch z⟩
instance : NN qForm := ⟨fun ⟨p, dx, u, h, _⟩ => by subst h; exact fun z => nomatch z⟩
instance : NN qPat := ⟨fun h => by obtain ⟨p, _, _, rfl, _⟩ := qPat_ins h (Same.refl _); exact fun z => nomatch z⟩
def rIsN0 : R2 := fun x y H Q => y = .non ∧ Q (.bl (decide (x = .non))) H
def rNotN0 : R2 := fun x y H Q => y = .non ∧ Q (.bl (!decide (x = .non))) H
theorem op_isN' {X : Cx} : OpR X (compareOp .Is) rIsN0 := op_isN
theorem op_notN' {X : Cx} : OpR X (compareOp .IsNot) rNotN0 := op_notN
section
variable {α : Type} {A : R α} {K : PySem.W.Frag} {F H : Hp} {v : V} {Q : VK} {a : Option α} {b : α}
theorem qO_non [N : NN A] (r : (qO A).r K F v a) : decide (v = .non) = a.isNone := by
  cases a with
  | none => cases (show v = .non from r); rfl
  | some a => exact decide_eq_false (N.n r)
theorem rd_notN [NN A] (r : (qO A).r K F v a) (k : Q (.bl (!a.isNone)) H) : rNotN0 v .non H Q := ⟨rfl, by rw [qO_non r]; exact k⟩
end
end Gl
namespace Gl
open PySem PySem.Spec PyProof.Rows L2
class Ord1 {α : Type} {A : R α} (D : Dat A) where
  n : Nat
  al : ∀ a b, PySem.W.alike (D.d a) (D.d b) = true
  dep : ∀ a, (D.d a).depth ≤ n
class Ordd {α : Type} {A : R α} (D : Dat A) extends Ord1 D where
  srt : ∀ bs : List α, PySem.W.Sortable (bs.map D.d)
theorem depAllQ {α : Type} {A : R α} (D : Dat A) (n : Nat) (h : ∀ a, (D.d a).depth ≤ n) : ∀ xs : List α, PyData.depthAll (xs.map D.d) ≤ n
  | [] => by simp [PyData.depthAll]
  | x :: xs => by
    rw [List.map_cons, PyData.depthAll]
    exact Nat.max_le.mpr ⟨h x, depAllQ D n h xs⟩
theorem alAll {α : Type} {A : R α} (D : Dat A) [o : Ord1 D] : ∀ xs ys : List α, PySem.W.alikeAll (xs.map D.d) (ys.map D.d) = true
  | [], _ => by simp [PySem.W.alikeAll]
  | _ :: _, [] => by simp [PySem.W.alikeAll]
  | x :: xs, y :: ys => by
    rw [List.map_cons, List.map_cons, PySem.W.alikeAll, alAll D xs ys, o.al x y]; rfl
instance oI : Ordd dI where
  n := 0
  al := fun _ _ => rfl
  dep := fun _ => Nat.zero_le _
  srt := fun bs => PySem.W.Sortable.others fun b => ⟨(fun z => nomatch z), fun _ z => nomatch z⟩
instance oS : Ordd dS where
  n := 0
  al := fun _ _ => rfl
  dep := fun _ => Nat.zero_le _
  srt := fun bs => PySem.W.Sortable.others fun b => ⟨(fun z => nomatch z), fun _ z => nomatch z⟩
instance oB : Ordd dB where
  n := 0
  al := fun _ _ => rfl
  dep := fun _ => Nat.zero_le _
  srt := fun bs => PySem.W.Sortable.others fun b => ⟨(fun z => nomatch z), fun _ z => nomatch z⟩
instance oT {α : Type} {A : R α} {D : Dat A} [o : Ord1 D] : Ord1 (dT D) where
  n := o.n + 1
  al := fun a b => by
    show PySem.W.alike (.tuple (a.map D.d)) (.tuple (b.map D.d)) = true
    rw [PySem.W.alike]; exact alAll D a b
  dep := fun a => by
    show (PyData.tuple (a.map D.d)).depth ≤ _
    rw [PyData.depth]
    have := depAllQ D o.n o.dep a
    omega
instance oL {α : Type} {A : R α} {D : Dat A} [o : Ord1 D] : Ordd (dL D) where
  n := o.n + 1
  al := fun a b => by
    show PySem.W.alike (.list (a.map D.d)) (.list (b.map D.d)) = true
    rw [PySem.W.alike]; exact alAll D a b
  dep := fun a => by
    show (PyData.list (a.map D.d)).depth ≤ _
    rw [PyData.depth]
    have := depAllQ D o.n o.dep a
    omega
  srt := fun bs => PySem.W.Sortable.others fun b => ⟨(fun z => nomatch z), fun _ z => nomatch z⟩
instance o2 {α β : Type} {A : R α} {B : R β} {D : Dat A} {E : Dat B} [o : Ord1 D] [p : Ord1 E] : Ordd (d2 D E) where
  n := max o.n p.n + 1
  al := fun a b => by
    show PySem.W.alike (.tuple [D.d a.1, E.d a.2]) (.tuple [D.d b.1, E.d b.2]) = true
    simp [PySem.W.alike, PySem.W.alikeAll, o.al, p.al]
  dep := fun a => by
    show (PyData.tuple [D.d a.1, E.d a.2]).depth ≤ _
    have h1 := o.dep a.1
    have h2 := p.dep a.2
    simp only [PyData.depth, PyData.depthAll]
    omega
  srt := fun bs => PySem.W.Sortable.tuples fun b => ⟨_, _, rfl⟩
end Gl
namespace Gl
open PySem PySem.Spec PyProof.Rows L2
end Gl
namespace Gl
open PySem PySem.Spec PyProof.Rows L2
section
variable {K : PySem.W.Frag} {P : Addr → Prop} {F0 H0 F H F' : Hp} {v : V} {Q : VK} {α : Type} {A : R α} {p : Addr} {vs : List V}
theorem row_bl {K : PySem.W.Frag} {F : Hp} {vs : List V} {xs : List Bool} (r : Row qB K F vs xs) : vs = xs.map V.bl := by
  induction r with
  | nil => rfl
  | cons h t ih => rw [ih, show _ = _ from h]; rfl
def rAnyK (K : PySem.W.Frag) : List V → Hp → VK → Prop := fun vs H Q => ∃ (a : Addr) (bs : List Bool), vs = [V.ref a] ∧ SqL K H a (bs.map V.bl) ∧ Q (.bl (bs.any id)) H
def rAllK (K : PySem.W.Frag) : List V → Hp → VK → Prop := fun vs H Q => ∃ (a : Addr) (bs : List Bool), vs = [V.ref a] ∧ SqL K H a (bs.map V.bl) ∧ Q (.bl (bs.all id)) H
theorem cr_anyK {X : Cx} (hc : X.calm = true) : CallR X (.builtin "any") (rAnyK X.K) := cr_any hc
theorem cr_allK {X : Cx} (hc : X.calm = true) : CallR X (.builtin "all") (rAllK X.K) := cr_all hc
theorem rd_any {xs : List Bool} (s : SeenR qB K F H v xs) (k : Q (.bl (xs.any id)) H) : rAnyK K [v] H Q := by
  obtain ⟨p, vs, rfl, h1, r⟩ := s
  obtain rfl := row_bl r
  exact ⟨p, xs, rfl, h1, k⟩
theorem rd_all {xs : List Bool} (s : SeenR qB K F H v xs) (k : Q (.bl (xs.all id)) H) : rAllK K [v] H Q := by
  obtain ⟨p, vs, rfl, h1, r⟩ := s
  obtain rfl := row_bl r
  exact ⟨p, xs, rfl, h1, k⟩
def rInsertK : V → List V → Hp → VK → Prop := fun x vs H Q => ∃ (l : Addr) (xs : List V) (i : Int) (y : V), x = .ref l ∧ vs = [.int i, y] ∧ H l = some (.lst xs) ∧ xs.length < sizeLine ∧ 0 ≤ i ∧ i < 2 ^ 63 ∧ Q .non (upd H l (.lst (xs.take i.toNat ++ [y] ++ xs.drop i.toNat)))
theorem mt_insertK {X : Cx} : MtR X "list.insert" rInsertK := mt_insert
def insI {α : Type} (xs : List α) (i : Int) (a : α) : List α := xs.take i.toNat ++ [a] ++ xs.drop i.toNat
def insOk {α : Type} (xs : List α) (i : Int) : Bool := fits xs && (decide (0 ≤ i) && decide (i < 2 ^ 63))
theorem rd_insert {xs : List α} {i : Int} {y : V} {a : α} (S : Sx P F0 H0 F H) (w : Ow P H0 F H p (.lst vs)) (r : Row A K F vs xs) (ra : A.r K F y a) (h : insOk xs i = true) (k : ∀ H' us, Sx (fun a => a = p) F H F H' → Ow P H0 F H' p (.lst us) → Row A K F us (insI xs i a) → Q .non H') : rInsertK (.ref p) [.int i, y] H Q := by
  obtain ⟨h1, h2⟩ := Bool.and_eq_true_iff.mp h
  obtain ⟨h3, h4⟩ := Bool.and_eq_true_iff.mp h2
  exact ⟨p, vs, i, y, rfl, rfl, w.at_, by rw [pLen r]; exact of_decide_eq_true h1, of_decide_eq_true h3, of_decide_eq_true h4, k _ _ (putS S w) w.put (pApp (pApp (pTake _ r) (.cons ra .nil)) (pDrop _ r))⟩
end
structure RR (α : Type) where
  r : PySem.W.Frag → Hp → List V → α → Prop
  mono : ∀ {K : PySem.W.Frag} {F F' : Hp} {v : List V} {a : α}, Same F F' → r K F v a → r K F' v a
def f1 {α : Type} (A : R α) : RR α := ⟨fun K F vs a => ∃ u, vs = [u] ∧ A.r K F u a, fun e ⟨u, h1, h2⟩ => ⟨u, h1, A.mono e h2⟩⟩
def fc {α β : Type} (A : R α) (B : RR β) : RR (α × β) := ⟨fun K F vs a => ∃ u us, vs = u :: us ∧ A.r K F u a.1 ∧ B.r K F us a.2, fun e ⟨u, us, h1, h2, h3⟩ => ⟨u, us, h1, A.mono e h2, B.mono e h3⟩⟩
def qLr {α : Type} (B : RR α) : R α := ⟨fun K F v a => ∃ p vs, v = .ref p ∧ F p = some (.lst vs) ∧ B.r K F vs a, fun e ⟨p, vs, h1, h2, h3⟩ => ⟨p, vs, h1, e _ _ h2, B.mono e h3⟩⟩
def qTr {α : Type} (B : RR α) : R α := ⟨fun K F v a => ∃ p vs, v = .ref p ∧ SqT K F p vs ∧ B.r K F vs a, fun e ⟨p, vs, h1, h2, h3⟩ => ⟨p, vs, h1, same_t e h2, B.mono e h3⟩⟩
structure DatR {α : Type} (B : RR α) where
  d : α → List PyData
  dp : ∀ {K : PySem.W.Frag} {F : Hp} {v : List V} {a : α}, B.r K F v a → DpAll K F v (d a)
  eq : ∀ a b : α, PyData.eqvAll (d a) (d b) = true ↔ a = b
def e1 {α : Type} {A : R α} (D : Dat A) : DatR (f1 A) := ⟨fun a => [D.d a], fun ⟨u, h1, h2⟩ => by subst h1; exact .cons (D.dp h2) .nil, fun a b => by
  show (PyData.eqv (D.d a) (D.d b) && true) = true ↔ _
  rw [Bool.and_true, D.eq]⟩
def ec {α β : Type} {A : R α} {B : RR β} (D : Dat A) (E : DatR B) : DatR (fc A B) := ⟨fun a => D.d a.1 :: E.d a.2, fun ⟨u, us, h1, h2, h3⟩ => by subst h1; exact .cons (D.dp h2) (E.dp h3), fun a b => by
  show (PyData.eqv (D.d a.1) (D.d b.1) && PyData.eqvAll (E.d a.2) (E.d b.2)) = true ↔ _
  rw [Bool.and_eq_true, D.eq, E.eq]
  obtain ⟨a1, a2⟩ := a
  obtain ⟨b1, b2⟩ := b
  simp⟩
def dLr {α : Type} {B : RR α} (E : DatR B) : Dat (qLr B) := ⟨fun a => .list (E.d a), fun ⟨p, vs, h1, h2, h3⟩ => by subst h1; exact .lst (SqL.of h2) (E.dp h3), fun a b => E.eq a b⟩
def dTr {α : Type} {B : RR α} (E : DatR B) : Dat (qTr B) := ⟨fun a => .tuple (E.d a), fun ⟨p, vs, h1, h2, h3⟩ => by subst h1; exact .tup h2 (E.dp h3), fun a b => E.eq a b⟩
instance {α : Type} {B : RR α} : NN (qLr B) := ⟨fun ⟨p, vs, h, _⟩ => by subst h; exact fun z => nomatch z⟩
instance {α : Type} {B : RR α} : NN (qTr B) := ⟨fun ⟨p, vs, h, _⟩ => by subst h; exact fun z => nomatch z⟩
instance {α : Type} {B : RR α} {E : DatR B} : NotNone (dLr E) := ⟨fun _ => rfl, fun _ => rfl⟩
instance {α : Type} {B : RR α} {E : DatR B} : NotNone (dTr E) := ⟨fun _ => rfl, fun _ => rfl⟩
section
variable {K : PySem.W.Frag} {P : Addr → Prop} {F0 H0 F H F' : Hp} {v u : V} {Q : VK} {α : Type} {B : RR α} {a : α}
theorem alLr {vs : List V} (S : Sx P F0 H0 F H) (r : B.r K F vs a) (k : ∀ v F' H', Sx P0 F H F' H' → (qLr B).r K F' v a → Q v H') : nK Q H (.lst vs) :=
  alF S fun p F' H' c h => k _ F' H' c ⟨p, vs, rfl, h, B.mono c.le r⟩
end
structure RowAt {α γ : Type} (B : RR α) (i : Nat) (C : R γ) (g : α → γ) : Prop where
  at_ : ∀ {K : PySem.W.Frag} {F : Hp} {vs : List V} {a : α}, B.r K F vs a → ∃ u, vs[i]? = some u ∧ C.r K F u (g a)
theorem ra0 {α β : Type} {A : R α} {B : RR β} : RowAt (fc A B) 0 A (fun a => a.1) := ⟨fun ⟨u, us, h1, h2, _⟩ => ⟨u, by rw [h1]; rfl, h2⟩⟩
theorem ra1 {α : Type} {A : R α} : RowAt (f1 A) 0 A (fun a => a) := ⟨fun ⟨u, h1, h2⟩ => ⟨u, by rw [h1]; rfl, h2⟩⟩
theorem raS {α β γ : Type} {A : R α} {B : RR β} {C : R γ} {i : Nat} {g : β → γ} (h : RowAt B i C g) : RowAt (fc A B) (i + 1) C (fun a => g a.2) := ⟨fun ⟨u, us, h1, _, h3⟩ => by
  obtain ⟨w, h4, h5⟩ := h.at_ h3
  exact ⟨w, by rw [h1, List.getElem?_cons_succ]; exact h4, h5⟩⟩
theorem atI_nat {α : Type} {xs : List α} {i : Nat} {x : α} (h : xs[i]? = some x) (hz : xs.length ≤ 1000) : atI xs (i : Int) = some x := by
  have hi : i < xs.length := (List.getElem?_eq_some_iff.mp h).1
  have : ixN xs.length (i : Int) = some i := by
    unfold ixN
    first | (simp; omega) | (rw [if_pos (by omega)]; simp) | skip
  unfold atI
  rw [this]
  exact h

section
variable {K : PySem.W.Frag} {P : Addr → Prop} {F0 H0 F H F' : Hp} {v u : V} {Q : VK} {α γ : Type} {B : RR α} {C : R γ} {g : α → γ} {a : α} {i : Nat} {σ : L2.St} {QS : L2.St → Hp → Prop} {ts : TGs}
theorem rd_xLr (S : Sx P F0 H0 F H) (r : (qLr B).r K F v a) (ra : RowAt B i C g) (hl : ∀ K F vs a, B.r K F vs a → vs.length ≤ 1000) (k : ∀ u, C.r K F u (g a) → Q u H) : rIxL K v (.int (i : Int)) H Q := by
  obtain ⟨p, vs, rfl, h2, h3⟩ := r
  obtain ⟨u, h4, h5⟩ := ra.at_ h3
  exact ⟨p, vs, i, u, rfl, rfl, SqL.of (S.sub _ _ h2), atI_nat h4 (hl _ _ _ _ h3), k u h5⟩
end
end Gl
namespace Gl
open PySem PySem.Spec PyProof.Rows L2
def chK (r' : R2) (tc : TE) (y : V) (σ : L2.St) (Q : VK) : VK := fun z H3 => ∃ k, z = .bl k ∧ (if k = true then tc σ H3 fun w' H4 => r' y w' H4 Q else Q (.bl false) H3)
theorem rd_chain {r r' : R2} {ta tb tc : TE} {σ : L2.St} {H : Hp} {Q : VK} (k : ta σ H fun x H1 => tb σ H1 fun y H2 => r x y H2 (chK r' tc y σ Q)) : tChain r r' ta tb tc σ H Q := k
theorem ch_at {r' : R2} {tc : TE} {y z : V} {σ : L2.St} {H : Hp} {Q : VK} {b c : Bool} (hc : ∀ Q' : VK, Q' z H → tc σ H Q') (hr : ∀ Q' : VK, Q' (.bl c) H → r' y z H Q') (k : Q (.bl (b && c)) H) : chK r' tc y σ Q (.bl b) H :=
  ⟨b, rfl, by
    cases b
    · exact k
    · exact hc _ (hr _ k)⟩
def rInW (P : Program) (w : World) (K : PySem.W.Frag) (mg : Str → Option Value) (base : Heap) (k : Nat) (neg : Bool) : R2 := fun x y H Q => ∃ (a dx : Addr) (fs : List (Str × V)) (C f : Addr) (sp : Sp) (j : Nat) (fd : FuncData) (ps : List Str), y = .ref a ∧ H a = some (.ins C dx fs) ∧
  Meth K C "__contains__" f ∧ FnOk P w K mg base CX0 j f fd ps sp ∧ j ≤ k ∧ Binds K fd ps [] ∧ sp [.ref a, x] H (fun v H2 => ∃ b, v = .bl b ∧ Q (.bl (neg != b)) H2) E0
theorem op_inW {X : Cx} {k : Nat} (hr : Room k X.A) : OpR X (compareOp .In) (rInW X.prog X.w X.K X.mg X.base k false) := by
  intro pins s σ H x y v u Q I rx ry h
  obtain ⟨a, dx, fs, C, f, sp, j, fd, ps, rfl, e, hm, F, hj, hb, h⟩ := h
  cases ry
  show wpAny _ _ ((contains (.ref a) v) >>= fun z => pure (Value.bool z)) _ _ s
  refine wpAny_bind (in_own (E := E0) hm F (hr.mono hj) hb pass0 I e rx h fun r s' ⟨z, H', I', rz, b, ez, q⟩ => ?_)
  subst ez
  cases rz
  refine ⟨b, rfl, wpAny_pure (fin_bl I' ?_ rfl)⟩
  cases b <;> exact q
def inWK (neg : Bool) (Q : VK) : VK := fun v H2 => ∃ b, v = .bl b ∧ Q (.bl (neg != b)) H2
theorem rd_inWf {Q : VK} {b : Bool} {H : Hp} (k : Q (.bl b) H) : inWK false Q (.bl b) H := ⟨b, rfl, by cases b <;> exact k⟩
theorem VM.inW {P : Program} {w : World} {K : PySem.W.Frag} {mg : Str → Option Value} {base : Heap} {k : Nat} {ps : List Str} {sp : Str → Sp} {F H F0 H0 : Hp} {P' : Addr → Prop} {v x : V} {a : Pat} {Q : VK} {neg : Bool} (V : VM P w K mg base k "__contains__" ps sp) (S : Sx P' F0 H0 F H) (r : qPat.r K F v a)
    (kt : sp a.cls [v, x] H (inWK neg Q) E0) : rInW P w K mg base k neg x v H Q := by
  obtain ⟨p, dx, fs, rfl, h2, h3⟩ := qPat_ins r S.sub
  obtain ⟨c, me, F, b⟩ := V.go a.cls a.isC
  exact ⟨p, dx, fs, _, _, sp a.cls, k, _, ps, rfl, h2, me, F, Nat.le_refl _, b, kt⟩
section
variable {X : Cx} {K : PySem.W.Frag} {T id : String} {name : Str} {o e : Expr} {es : List Expr} {to : TE} {t : TA} {r : V → List V → Hp → VK → Prop} {apos cpos : Pos}
theorem pe_bmK (pa : PlainAttrs T) (slot : Slot T name id) (hty : typeOf (.builtin id) = pure (.type "method_descriptor")) (hm : MtR X id r) (ho : PE X o to) (ha : PA X (e :: es) t) (hK : X.K = K := by rfl)
    (hbase : attributeBase o name X.env (eval o X.env) = eval o X.env := by rfl)
    (hfew : ((backTo cpos (starEach (e :: es) X.env)).all (fun x => !x.1) && (backToKw cpos (keywordEach [] X.env)).all (fun x => x.1.isSome)
      && decide ((e :: es).length + ([] : List Keyword).length + (if ([] : List Keyword).isEmpty then 0 else 1) < 30)) = true := by rfl)
    (hline : (apos.endLine == cpos.line) = true := by rfl) (hs : starEach (e :: es) X.env = (false, eval e X.env) :: starEach es X.env := by rfl) (hplain : (backTo cpos (starEach es X.env)).any (·.1) = false := by rfl) :
    PE X (.Call (.Attribute o name apos) (e :: es) [] cpos) (tBM K T r to t) := by
  subst hK; exact pe_bm pa slot hty hm ho ha hbase hfew hline hs hplain
end
end Gl
namespace Gl
open PySem PySem.Spec PyProof.Rows L2
end Gl
namespace Gl
open PySem PySem.Spec PyProof.Rows L2
end Gl
namespace L2
open PySem PySem.Spec PyProof.Rows
end L2
namespace Gl
open PySem PySem.Spec PyProof.Rows L2
end Gl
namespace Gl
open PySem PySem.Spec PyProof.Rows L2
section
variable {X : Cx} {CX : CXT} {k : Nat} {C f : Addr} {fd : FuncData} {ps : List Str} {sp : Sp} {E : XK}
theorem run_fn2 {pins : List (Addr × Obj)} {σ : L2.St} {H : Hp} {s : Shared} {Q : VK} {us : List Value} {vs : List V} (F : FnOk X.prog X.w X.K X.mg X.base CX k f fd ps sp) (hr : Room (k + 2) X.A) (hb : Binds X.K fd ps []) (hx : Passes CX X E)
    (I : Inv X pins σ H s) (r : Vals vs us) (h : sp vs H Q E) : wpAny (model X.prog X.w) X.A.in1.in1 (call (.ref f) us) (EP X pins σ Q) X.xe s := by
  have hl : (us ++ []).length = ps.length := by rw [List.append_nil, ← r.length]; exact F.len _ _ _ _ h
  have hb' := hb s us I.kIn hl
  rw [List.append_nil] at hb'
  refine wpAny_call (codeAny_mono (F.run X.A.in1.in1 X.stack s H ⟨us, []⟩ us vs Q E hr.in1.in1 I.env0.in1.in1 hb' r h) fun r s' hq => ?_)
  cases r with
  | error e => exact hx pins σ H s e s' I hq
  | ok fl =>
    cases fl with
    | ret u => exact I.after hq
    | next => exact False.elim hq
    | brk => exact False.elim hq
    | cont => exact False.elim hq
end
def stK (Q : VK) : VK := fun v H2 => ∃ t, v = .str t ∧ Q (.str t) H2
def rStrW (P : Program) (w : World) (K : PySem.W.Frag) (mg : Str → Option Value) (base : Heap) (k : Nat) : List V → Hp → VK → Prop := fun xs H Q => ∃ (a dx : Addr) (fs : List (Str × V)) (C f : Addr) (sp : Sp) (j : Nat) (fd : FuncData) (ps : List Str), xs = [.ref a] ∧ H a = some (.ins C dx fs) ∧
  Meth K C "__str__" f ∧ FnOk P w K mg base CX0 j f fd ps sp ∧ j ≤ k ∧ Binds K fd ps [] ∧ sp [.ref a] H (stK Q) E0
theorem cr_strW {X : Cx} {k : Nat} (hr : Room (k + 2) X.A) : CallR X (.type "str") (rStrW X.prog X.w X.K X.mg X.base k) := by
  intro pins s σ H xs us Q I r h
  obtain ⟨a, dx, fs, C, f, sp, j, fd, ps, rfl, e, hm, F, hj, hb, h⟩ := h
  obtain rfl := Vals.ref1 r
  obtain ⟨ox, od, J, _⟩ := StX.insC_at I (.inr ⟨dx, fs, e⟩)
  refine PySem.W.kso_call (by have := hr.un; show X.A.units + 1 + 1 < cLine; omega) I.kIn J hm.at_ hm.fn ?_
  have z := run_fn2 (X := X) (us := [.ref a]) (vs := [.ref a]) F (hr.mono (by omega)) hb pass0 I (.cons rfl .nil) (Q := stK Q) h
  refine wpAny_mono z (fun v s' hv => ?_) fun _ _ z => z
  obtain ⟨x, H', I', rx, t, ex, q⟩ := hv
  subst ex
  obtain ⟨tk, rfl⟩ := rx
  exact ⟨.str t, H', I', ⟨tk, rfl⟩, q⟩
theorem rd_stK {Q : VK} {t : Str} {H : Hp} (k : Q (.str t) H) : stK Q (.str t) H := ⟨t, rfl, k⟩
theorem VM.strW {P : Program} {w : World} {K : PySem.W.Frag} {mg : Str → Option Value} {base : Heap} {k : Nat} {ps : List Str} {sp : Str → Sp} {F H F0 H0 : Hp} {P' : Addr → Prop} {v : V} {a : Pat} {Q : VK} (V : VM P w K mg base k "__str__" ps sp) (S : Sx P' F0 H0 F H) (r : qPat.r K F v a)
    (kt : sp a.cls [v] H (stK Q) E0) : rStrW P w K mg base k [v] H Q := by
  obtain ⟨p, dx, fs, rfl, h2, h3⟩ := qPat_ins r S.sub
  obtain ⟨c, me, F, b⟩ := V.go a.cls a.isC
  exact ⟨p, dx, fs, _, _, sp a.cls, k, _, ps, rfl, h2, me, F, Nat.le_refl _, b, kt⟩
section
variable {t te : TE} {ts : List TE} {acc y : Str} {σ : L2.St} {H : Hp} {R : Str → Hp → Prop} {Q : VK}
def jsK (ts : List TE) (acc : Str) (σ : L2.St) (R : Str → Hp → Prop) : VK := fun x H1 => ∃ y : Str, x = .str y ∧ (acc ++ y).length ≤ sizeLine ∧ tJs ts (acc ++ y) σ H1 R
theorem rd_js (k : t σ H (jsK ts acc σ R)) : tJs (t :: ts) acc σ H R := k
theorem js_at (h : (acc ++ y).length ≤ sizeLine) (k : tJs ts (acc ++ y) σ H R) : jsK ts acc σ R (.str y) H := ⟨y, rfl, h, k⟩
theorem rd_js0 (k : R acc H) : tJs [] acc σ H R := k
def fmK (Q : VK) : VK := fun x H1 => (∃ y : Str, x = .str y ∧ y.length ≤ sizeLine ∧ Q (.str y) H1) ∨ ∃ i : Int, x = .int i ∧ i.natAbs.log2 < 1920 ∧ Q (.str (toString i)) H1
theorem rd_fm (k : te σ H (fmK Q)) : tFmt te σ H Q := k
theorem fm_at (h : y.length ≤ sizeLine) (k : Q (.str y) H) : fmK Q (.str y) H := .inl ⟨y, rfl, h, k⟩
end
def joinP (m x y : Str) : Str := Str.empty ++ ("(" : Str) ++ x ++ m ++ y ++ (")" : Str)
def joinPok (m x y : Str) : Bool := decide (x.length ≤ sizeLine) && decide (y.length ≤ sizeLine) && decide ((joinP m x y).length ≤ sizeLine)
theorem joinPok_len {m x y : Str} (h : joinPok m x y = true) : x.length ≤ sizeLine ∧ y.length ≤ sizeLine ∧ (Str.empty ++ ("(" : Str)).length ≤ sizeLine ∧ (Str.empty ++ ("(" : Str) ++ x).length ≤ sizeLine ∧ (Str.empty ++ ("(" : Str) ++ x ++ m).length ≤ sizeLine ∧ (Str.empty ++ ("(" : Str) ++ x ++ m ++ y).length ≤ sizeLine ∧ (Str.empty ++ ("(" : Str) ++ x ++ m ++ y ++ (")" : Str)).length ≤ sizeLine := by
  unfold joinPok joinP at h
  simp only [Bool.and_eq_true, decide_eq_true_eq] at h
  obtain ⟨⟨h1, h2⟩, h3⟩ := h
  simp only [Str.length_append] at h3 ⊢
  omega
def Pat.str : Pat → Option Str
  | .form a => gd (joinOk ("" : Str) a) (some (Txt.join ("" : Str) a))
  | .both l r => l.str.bind fun x => r.str.bind fun y => gd (joinPok (" & " : Str) x y) (some (joinP (" & " : Str) x y))
  | .either l r => l.str.bind fun x => r.str.bind fun y => gd (joinPok (" | " : Str) x y) (some (joinP (" | " : Str) x y))
def m_pat___str__ (a : Pat) : Option Str := patN 3 a a.str
def sp_pat_str (n : Nat) (x : Str) (K : PySem.W.Frag) : Sp := fun vs H Q _ => ∃ (F : Hp) (v_self : V) (a_self : Pat) (r : Str), vs = [v_self] ∧ Same F H ∧ qPat.r K F v_self a_self ∧ a_self.cls = x ∧ patN n a_self a_self.str = some r ∧ ∀ v F' H', Sx P0 F H F' H' → qS.r K F' v r → Q v H'
end Gl
namespace Gl
open PySem PySem.Spec PyProof.Rows L2
section
variable {K : PySem.W.Frag} {P : Addr → Prop} {F0 H0 F H : Hp} {v u : V} {Q : VK}
end
end Gl
namespace Gl
open PySem PySem.Spec PyProof.Rows L2 C8
open PySem.OwnE (ErC IS putM)
def exB {ε α β : Type} : Except ε α → (α → Option (Except ε β)) → Option (Except ε β)
  | .ok a, k => k a
  | .error e, _ => some (.error e)
theorem exB_ok {ε α β : Type} {a : α} {k : α → Option (Except ε β)} {r : Except ε β} (h : exB (.ok a) k = some r) : k a = some r := h
theorem exB_err {ε α β : Type} {t : Except ε α} {e : ε} {k : α → Option (Except ε β)} {r : Except ε β} (ee : t = .error e) (h : exB t k = some r) : r = .error e := by
  subst ee
  exact (Option.some.inj h).symm
def exT {ε α β : Type} : Except ε α → (ε → Option β) → (α → Option β) → Option β
  | .ok a, _, k => k a
  | .error e, h, _ => h e
theorem exT_ok {ε α β : Type} {a : α} {k : α → Option β} {h : ε → Option β} {r : β} (hm : exT (.ok a) h k = some r) : k a = some r := hm
theorem exT_err {ε α β : Type} {e : ε} {k : α → Option β} {h : ε → Option β} {r : β} (hm : exT (.error e : Except ε α) h k = some r) : h e = some r := hm
def ErrAt (K : PySem.W.Frag) (H : Hp) (c : Str) (fs : List Str) (xs : List V) (cls : Value) (d : Option Addr) : Prop := ∃ dd, cls = .ref (He.ga K c) ∧ d = some dd ∧ H dd = some (.xd (putL fs xs []))
def tRz (t : L2.St → Hp → XK → Prop) (E : XK) : TS := fun _ σ H => t σ H E
section
variable {P : Program} {w : World} {K : PySem.W.Frag} {mg : Str → Option Value} {base : Heap} {N : List Str} {qual : Str} {scope : Scope} {f : Addr} {cd : Value} {A : Around} {outer : List Env} {s : Shared} {H0 : Hp} {E : XK}
theorem takes_cx : Takes (cxOf (L2.CX P w) P w K mg base N qual scope f cd A outer s H0 E) (fun cls d _ H' => E cls d H') := takes_of rfl rfl rfl rfl
theorem passes_cx : Passes (L2.CX P w) (cxOf (L2.CX P w) P w K mg base N qual scope f cd A outer s H0 E) E := passes_call takes_cx (fun _ _ _ _ h => h)
theorem ps_rz {e : Expr} {t : L2.St → Hp → XK → Prop} {pos : Pos} (he : PMk (cxOf (L2.CX P w) P w K mg base N qual scope f cd A outer s H0 E) e t) : PS (cxOf (L2.CX P w) P w K mg base N qual scope f cd A outer s H0 E) (.Raise (some e) none pos) (tRz t E) := ps_raise rfl takes_cx he
end
section
variable {K : PySem.W.Frag} {P : Addr → Prop} {F0 H0 F H : Hp} {σ : L2.St} {c : Str} {fs : List Str} {xs : List V} {E : XK} {ta : TA} {N B C : L2.St → Hp → Prop} {R : VK}
def eK (K : PySem.W.Frag) (c : Str) (fs : List Str) (E : XK) : List V → Hp → Prop := fun vs H1 => vs.length = fs.length ∧ ∀ d, H1 d = none → E (.ref (He.ga K c)) (some d) (upd H1 d (.xd (putL fs vs [])))
theorem rd_rz (k : ta σ H (eK K c fs E)) : tRz (tErr (He.ga K c) fs ta) E ⟨N, R, B, C⟩ σ H := k
theorem rd_eK {vs : List V} (S : Sx P F0 H0 F H) (e : vs = xs) (hl : xs.length = fs.length) (k : ∀ cls d H', Sx P F0 H0 F H' → ErrAt K H' c fs xs cls d → E cls d H') : eK K c fs E vs H := by
  subst e
  exact ⟨hl, fun d hd => k _ _ _ (S.temp hd) ⟨d, rfl, rfl, upd_same⟩⟩
end
def tTry (tb : WX → TS) (K : PySem.W.Frag) (c : Value) (i : Nat) (ts : Addr → Value → Option Addr → TS) (Wout : WX) : TS := fun D σ H => tb (wAs K c i ts Wout D) D σ H
section
variable {X : Cx} {x n : Str} {c : Value} {i : Nat} {body suite : List Stmt} {b₀ : Stmt} {np pos pos' : Pos} {tb : WX → TS} {ts : Addr → Value → Option Addr → TS} {Wout : WX}
theorem ps_tryK (hs : X.stack = X.env :: X.outer) (hf : X.env.frame = some X.env.locals) (hN : X.N.Nodup) (hi : X.N[i]? = some n) (hln : X.env.kindOf n = some .local) (hc : Names X x c) (tk : Takes X Wout)
    (hb : ∀ (W : WX) (pn : List (Addr × Obj)) (xe : Value → Shared → Prop), Takes (X.tr pn xe) W → PassesOwn (model X.prog X.w) X.A X.env xe → PSs (X.tr pn xe) body (tb W))
    (hsu : ∀ (a : Addr) (oe : Obj) (cls : Value) (d : Option Addr) (pn : List (Addr × Obj)), Zc cls d oe → (∃ vs, oe.data = .fields vs) → PSs (X.suite a ((a, oe) :: pn)) (b₀ :: suite) (ts a cls d)) :
    PS X (.Try body [.ExceptHandler (some (.Name x np)) (some n) (b₀ :: suite) pos'] [] [] pos) (tTry tb X.K c i ts Wout) := ps_try_as hs hf hN hi hln hc tk hb hsu
theorem takesF : Takes X (fun _ _ _ _ => False) := L2.takes0
end
section
variable {K : PySem.W.Frag} {P : Addr → Prop} {F0 H0 F H : Hp} {σ : L2.St} {c : Value} {i : Nat} {tb : WX → TS} {ts : Addr → Value → Option Addr → TS} {Wout : WX} {D : Ends} {N B C : L2.St → Hp → Prop} {R : VK} {cls : Value} {d : Option Addr}
theorem rd_try (k : tb (wAs K c i ts Wout ⟨N, R, B, C⟩) ⟨N, R, B, C⟩ σ H) : tTry tb K c i ts Wout ⟨N, R, B, C⟩ σ H := k
theorem rd_was (hb : PySem.W.exmOne K cls c = some true) (k : ∀ a, H a = none → ts a cls d ⟨fun σ' H' => D.nx (σ'.set i none) H', D.rt, fun σ' H' => D.bk (σ'.set i none) H', fun σ' H' => D.ct (σ'.set i none) H'⟩ (σ.set i (some (.ref a))) H) : WE (wAs K c i ts Wout D) σ cls d H := ⟨true, hb, fun _ => k, fun z => by cases z⟩
end
section
variable {K : PySem.W.Frag} {H : Hp} {σ : L2.St} {a C dd : Addr} {cls : Value} {d : Option Addr} {f : Str} {Q : VK} {te : TE} {l : List (Str × V)} {v : V}
def xfK (a : Addr) (cls : Value) (d : Option Addr) (C : Addr) (f : Str) (Q : VK) : VK := fun x H1 => x = .ref a ∧ cls = .ref C ∧ ∃ (dd : Addr) (fs : List (Str × V)) (v : V), d = some dd ∧ H1 dd = some (.xd fs) ∧ fs.lookup f = some v ∧ Q v H1
theorem rd_xf (k : te σ H (xfK a cls d C f Q)) : tXf a cls d C f te σ H Q := k
theorem xf_at (h : H dd = some (.xd l)) (e : l.lookup f = some v) (k : Q v H) : xfK a (.ref C) (some dd) C f Q (.ref a) H := ⟨rfl, rfl, dd, l, v, rfl, h, e, k⟩
def exmB (K : PySem.W.Frag) (x y : Str) : Bool := decide (PySem.W.exmOne K (.ref (He.ga K x)) (.ref (He.ga K y)) = some true)
theorem exmB_ok {x y : Str} (h : exmB K x y = true) : PySem.W.exmOne K (.ref (He.ga K x)) (.ref (He.ga K y)) = some true := of_decide_eq_true h
end
theorem mt_joinKK {X : Cx} {K : PySem.W.Frag} (hK : X.K = K := by rfl) : MtR X "str.join" (rJoin K) := by subst hK; exact mt_joinK
end Gl
namespace Gl
open PySem PySem.Spec PyProof.Rows L2 C8
def SdRow (K : PySem.W.Frag) (F : Hp) (kvs : List (Key × V)) (xs : List (Str × Th)) : Prop := Paired (fun (kv : Key × V) (x : Str × Th) => kv.1 = .inr x.1 ∧ qTh.r K F kv.2 x.2) kvs xs
theorem SdRow.mono {K : PySem.W.Frag} {F F' : Hp} {kvs : List (Key × V)} {xs : List (Str × Th)} (e : Same F F') (h : SdRow K F kvs xs) : SdRow K F' kvs xs := Paired.mapP h fun _ _ r => ⟨r.1, qTh.mono e r.2⟩
def qSd : R (List (Str × Th)) := ⟨fun K F v xs => ∃ p kvs, v = .ref p ∧ F p = some (.dK kvs) ∧ SdRow K F kvs xs, fun e ⟨p, kvs, h1, h2, h3⟩ => ⟨p, kvs, h1, e _ _ h2, SdRow.mono e h3⟩⟩
def getSd (k : Str) : List (Str × Th) → Option Th
  | [] => none
  | x :: xs => if x.1 = k then some x.2 else getSd k xs
theorem SdRow.get {K : PySem.W.Frag} {F : Hp} {k : Str} : ∀ {kvs : List (Key × V)} {xs : List (Str × Th)}, SdRow K F kvs xs → (valV kvs (.inr k) = none ∧ getSd k xs = none) ∨ ∃ u t, valV kvs (.inr k) = some u ∧ getSd k xs = some t ∧ qTh.r K F u t
  | _, _, .nil => .inl ⟨rfl, rfl⟩
  | kv :: kvs, x :: xs, .cons r t => by
    by_cases e : x.1 = k
    · refine .inr ⟨kv.2, x.2, valV_pos (by rw [r.1, e]), ?_, r.2⟩
      show (if x.1 = k then _ else _) = _
      rw [if_pos e]
    · have n : ¬ kv.1 = (.inr k : Key) := fun z => by rw [r.1] at z; exact e (Sum.inr.inj z)
      rw [valV_neg n]
      show _ ∨ ∃ u t, _ ∧ (if x.1 = k then some x.2 else getSd k xs) = some t ∧ _
      rw [show getSd k (x :: xs) = getSd k xs from if_neg e, if_neg e]
      exact SdRow.get t
section
variable {K : PySem.W.Frag} {P : Addr → Prop} {F0 H0 F H : Hp} {v : V} {xs : List (Str × Th)} {Q : VK} {σ : L2.St} {td ty : TE} {k : Str} {t : Th}
def rDg : R2 := fun x y H Q => ∃ a u, x = .ref a ∧ DGet H a y (some u) ∧ Q u H
theorem pe_dgetO {X : Cx} {o i : Expr} {pos : Pos} (hu : X.A.units + 64 < cLine) (ho : PE X o td) (hi : PE X i ty) (hs : NoSl i) : PE X (.Subscript o i pos) (tOp rDg td ty) := pe_dget (by omega) ho hi hs
theorem rd_dgSd (S : Sx P F0 H0 F H) (r : qSd.r K F v xs) (h : getSd k xs = some t) (q : ∀ u, qTh.r K F u t → Q u H) : rDg v (.str k) H Q := by
  obtain ⟨p, kvs, rfl, h1, h2⟩ := r
  rcases h2.get (k := k) with ⟨e1, e2⟩ | ⟨u, t', e1, e2, e3⟩
  · rw [h] at e2; cases e2
  · rw [h] at e2
    cases e2
    exact ⟨p, u, rfl, by have := DGet.k (k := .inr k) (S.sub _ _ h1); rw [e1] at this; exact this, q u e3⟩
def rDi (neg : Bool) : R2 := fun x y H Q => ∃ a o, y = .ref a ∧ DGet H a x o ∧ Q (.bl (if neg = true then !o.isSome else o.isSome)) H
theorem op_dIn {X : Cx} (hu : X.A.units + 64 < cLine) : OpR X (compareOp .In) (rDi false) := by
  intro pins s σ H x y v u Q I rx ry h
  obtain ⟨a, o, rfl, g, q⟩ := h
  cases ry
  rw [if_neg (by decide)] at q
  exact d_in (by omega) I g rx fun s' I' => ⟨.bl _, H, I', rfl, q⟩
theorem SdRow.some_eq {kvs : List (Key × V)} (h : SdRow K F kvs xs) : (valV kvs (.inr k)).isSome = (getSd k xs).isSome := by
  rcases h.get (k := k) with ⟨e1, e2⟩ | ⟨u, t', e1, e2, e3⟩
  · rw [e1, e2]; rfl
  · rw [e1, e2]; rfl
theorem rd_dInSd (S : Sx P F0 H0 F H) (r : qSd.r K F v xs) (q : Q (.bl (getSd k xs).isSome) H) : rDi false (.str k) v H Q := by
  obtain ⟨p, kvs, rfl, h1, h2⟩ := r
  exact ⟨p, _, rfl, DGet.k (k := .inr k) (S.sub _ _ h1), by rw [if_neg (by decide), h2.some_eq]; exact q⟩
end
theorem mergeK_snoc : ∀ (more acc : List (Key × V)), ((acc ++ more).map (·.1)).Nodup → mergeK acc more = acc ++ more
  | [], acc, _ => by rw [List.append_nil]; rfl
  | kv :: more, acc, h => by
    have hn : valV acc kv.1 = none := by
      cases e : valV acc kv.1 with
      | none => rfl
      | some u =>
        have h2 := valV_any kv.1 acc
        rw [e] at h2
        obtain ⟨z, hz, hz2⟩ := List.any_eq_true.mp h2
        rw [List.map_append, List.map_cons, List.nodup_append] at h
        exact absurd (of_decide_eq_true hz2) (h.2.2 _ (List.mem_map_of_mem hz) _ List.mem_cons_self)
    show mergeK (putK acc kv.1 kv.2) more = _
    rw [putK_new _ hn, mergeK_snoc more (acc ++ [(kv.1, kv.2)]) (by rw [List.append_assoc]; exact h), List.append_assoc]
    rfl
theorem mergeK_self {kvs : List (Key × V)} {ks : List Key} (e : kvs.map (·.1) = ks) (h : ks.Nodup) : mergeK [] kvs = kvs := mergeK_snoc kvs [] (by rw [List.nil_append, e]; exact h)
section
variable {K : PySem.W.Frag} {P : Addr → Prop} {F0 H0 F H : Hp} {Q : VK} {σ : L2.St} {trs : List (TE × TE)} {tk tv : TE} {p : Addr} {xs : List (Str × Th)} {kvs : List (Key × V)} {R : List (V × V) → Hp → Prop}
def spK (p : Addr) (Q : VK) : List (V × V) → Hp → Prop := fun ps H2 => H2 p = some (.dK []) ∧ ∃ kvs : List (Key × V), ps = kvs.map (fun kv => (kV kv.1, kv.2)) ∧ kvs.length ≤ 15 ∧ Q (.ref p) (upd H2 p (.dK (mergeK [] kvs)))
theorem rd_disp (S : Sx P F0 H0 F H) (k : ∀ p H', H p = none → Sx P0 F H F H' → Ow P H0 F H' p (.dK []) → tPairs trs σ H' (spK p Q)) : tDisp trs σ H Q :=
  fun p hp => k p _ hp ((Sx.refl0 S.sub).temp hp) (S.own hp)
theorem rd_pp (k : tk σ H fun x H1 => tv σ H1 fun y H2 => tPairs trs σ H2 fun ps H3 => R ((x, y) :: ps) H3) : tPairs ((tk, tv) :: trs) σ H R := k
theorem rd_p0 (k : R [] H) : tPairs [] σ H R := k
theorem rd_dispE {ps : List (V × V)} {ks : List Key} (S : Sx P F0 H0 F H) (w : Ow P H0 F H p (.dK [])) (row : SdRow K F kvs xs) (e : ps = kvs.map (fun kv => (kV kv.1, kv.2))) (h15 : Nat.ble kvs.length 15 = true) (ek : kvs.map (·.1) = ks) (nd : ks.Nodup)
    (k : ∀ H', Sx (fun a => a = p) F H F H' → Ow P H0 F H' p (.dK kvs) → Q (.ref p) H') : spK p Q ps H :=
  ⟨w.at_, kvs, e, Nat.le_of_ble_eq_true h15, by rw [mergeK_self ek nd]; exact k _ (putS S w) w.put⟩
theorem fzSd (S : Sx P F0 H0 F H) (w : Ow P H0 F H p (.dK kvs)) (h0 : H0 p = none) (row : SdRow K F kvs xs) : ∃ F', Sx P F0 H0 F' H ∧ Same F F' ∧ qSd.r K F' (.ref p) xs ∧ ∀ q, q ≠ p → F' q = F q :=
  ⟨_, S.freeze w h0, w.leF, ⟨p, kvs, rfl, upd_same, SdRow.mono w.leF row⟩, fun _ n => upd_ne n⟩
end
def thOI : Th → Option (Option Int)
  | .d .none => some none
  | .d (.int i) => some (some i)
  | _ => none
def thB : Th → Option Bool
  | .d (.bool b) => some b
  | _ => none
def thO : Option Int → Th
  | none => .d .none
  | some i => .d (.int i)
def thNon (t : Th) : Bool := match t with
  | .d .none => true
  | _ => false
def thIsB (t : Th) (c : Bool) : Bool := match t with
  | .d (.bool b) => decide (b = c)
  | _ => false
section
variable {K : PySem.W.Frag} {P : Addr → Prop} {F0 H0 F H : Hp} {v : V} {a : Th} {Q : VK}
theorem thOI_fact {o : Option Int} (r : qTh.r K F v a) (h : thOI a = some o) : (qO qI).r K F v o := by
  cases a with
  | dct => cases h
  | d x =>
    cases x with
    | int z =>
      cases (show some (some z) = some o from h)
      cases (show Dp K F v (.int _) from r)
      rfl
    | none =>
      cases (show some none = some o from h)
      cases (show Dp K F v .none from r)
      rfl
    | _ => cases h
theorem thB_fact {b : Bool} (r : qTh.r K F v a) (h : thB a = some b) : v = .bl b := by
  cases a with
  | dct => cases h
  | d x =>
    cases x with
    | bool z =>
      cases (show some z = some b from h)
      cases (show Dp K F v (.bool _) from r)
      rfl
    | _ => cases h
theorem thO_r {o : Option Int} (r : (qO qI).r K F v o) : qTh.r K F v (thO o) := by
  cases o with
  | none => cases (show v = .non from r); exact Dp.non
  | some i => cases (show v = .int i from r); exact Dp.int _
def plV : V → Bool
  | .non | .bl _ | .int _ | .str _ | .ref _ => true
  | _ => false
theorem th_pl (r : qTh.r K F v a) : plV v = true ∧ decide (v = .non) = thNon a ∧ ∀ c, decide (v = .bl c) = thIsB a c := by
  cases a with
  | dct =>
    obtain ⟨p, rfl, _⟩ := r
    exact ⟨rfl, by simp [thNon], fun c => by simp [thIsB]⟩
  | d x =>
    cases x with
    | none => cases (show Dp K F v .none from r); exact ⟨rfl, by simp [thNon], fun c => by simp [thIsB]⟩
    | bool b => cases (show Dp K F v (.bool b) from r); exact ⟨rfl, by simp [thNon], fun c => by simp [thIsB]⟩
    | int b => cases (show Dp K F v (.int b) from r); exact ⟨rfl, by simp [thNon], fun c => by simp [thIsB]⟩
    | str b => cases (show Dp K F v (.str b) from r); exact ⟨rfl, by simp [thNon], fun c => by simp [thIsB]⟩
    | list b =>
      cases (show Dp K F v (.list b) from r) with
      | lst h _ => exact ⟨rfl, by simp [thNon], fun c => by simp [thIsB]⟩
    | tuple b =>
      cases (show Dp K F v (.tuple b) from r) with
      | tup h _ => exact ⟨rfl, by simp [thNon], fun c => by simp [thIsB]⟩
    | dict b => cases (show Dp K F v (.dict b) from r)
def rIsBv : R2 := fun x y H Q => ∃ c, y = .bl c ∧ plV x = true ∧ Q (.bl (decide (x = .bl c))) H
theorem op_isBv {X : Cx} : OpR X (compareOp .Is) rIsBv := by
  intro pins s σ H x y v u Q I rx ry h
  obtain ⟨c, rfl, hp, q⟩ := h
  cases ry
  cases x with
  | non => cases rx; exact wpAny_is_plain (by rfl) (fin_bl I q (by simp))
  | bl b =>
    cases rx
    refine wpAny_is_plain (by rfl) (fin_bl I q ?_)
    cases b <;> cases c <;> rfl
  | int i => obtain ⟨t, rfl⟩ := rx; exact wpAny_is_plain (by rfl) (fin_bl I q (by simp))
  | str i => obtain ⟨t, rfl⟩ := rx; exact wpAny_is_plain (by rfl) (fin_bl I q (by simp))
  | ref i => cases rx; exact wpAny_is_plain (by rfl) (fin_bl I q (by simp))
  | _ => cases hp
theorem rd_isBTh {c : Bool} (r : qTh.r K F v a) (k : Q (.bl (thIsB a c)) H) : rIsBv v (.bl c) H Q := ⟨c, rfl, (th_pl r).1, by rw [(th_pl r).2.2 c]; exact k⟩
theorem rd_isNTh (r : qTh.r K F v a) (k : Q (.bl (thNon a)) H) : rIsN0 v .non H Q := ⟨rfl, by rw [(th_pl r).2.1]; exact k⟩
end
def prA (K : PySem.W.Frag) (C f : Str) : Addr := match PySem.W.findIn K (.ref (He.ga K C)) f with
  | some (some (.ref p)) => p
  | _ => 0
def geA (K : PySem.W.Frag) (C f : Str) : Addr := match PySem.W.recIn K (prA K C f) "property" with
  | some (.ref g :: _) => g
  | _ => 0
def fnG (K : PySem.W.Frag) (C f : Str) : He.FnW := match K.lookup (geA K C f) with
  | some ⟨_, _, .func z, _⟩ => some (z.name, z.qualname, z.params, z.body, z.scope, z.globals, z.closure, z.builtins)
  | _ => none
def fdG (K : PySem.W.Frag) (C f : Str) : FuncData := match K.lookup (geA K C f) with
  | some ⟨_, _, .func z, _⟩ => z
  | _ => fdDefault
def prB (K : PySem.W.Frag) (C f q : Str) : Bool :=
  He.eqO (PySem.W.findIn K (.ref (He.ga K C)) f) (some (some (.ref (prA K C f)))) && (He.eqO (PySem.W.specialIn K (.ref (prA K C f)) "__get__") (some (some (.builtin "property.__get__"))) && (decide (PySem.W.takesIn K (.ref (prA K C f)) = some true) &&
  ((match PySem.W.recIn K (prA K C f) "property" with
    | some (.ref g :: _) => decide (g = geA K C f)
    | _ => false) && (PySem.W.keepIn K (.ref (geA K C f)) && (match K.lookup (geA K C f) with
    | some ⟨_, _, .func z, _⟩ => PySem.W.codeIn K z.code q && (He.dflB K z.defaults [] && He.kwdB K z.kwdefaults [])
    | _ => false)))))
structure Pr (K : PySem.W.Frag) (C f q : Str) (st : Stmt) : Prop where
  p : PropOf K (He.ga K C) f (prA K C f) (geA K C f)
  F : FunD K f q (defArgs st) (defBody st) (defScope st) [] [] (geA K C f) (fdG K C f)
theorem pr_ok {K : PySem.W.Frag} {C f q : Str} {st : Stmt} (c : prB K C f q = true) (e : fnG K C f = some (f, q, defArgs st, FuncBody.stmts (defBody st), defScope st, mainGlobals, [], builtinsNs)) : Pr K C f q st := by
  unfold prB at c
  obtain ⟨c1, c⟩ := He.ba c
  obtain ⟨c2, c⟩ := He.ba c
  obtain ⟨c3, c⟩ := He.ba c
  obtain ⟨c4, c⟩ := He.ba c
  obtain ⟨c5, c6⟩ := He.ba c
  refine ⟨⟨He.eqO_ok c1, He.eqO_ok c2, of_decide_eq_true c3, ?_⟩, ?_⟩
  · revert c4
    split
    · rename_i g r hr
      intro c4
      exact ⟨r, by rw [hr, of_decide_eq_true c4]⟩
    · intro c4; cases c4
  · unfold fnG at e
    cases hl : K.lookup (geA K C f) with
    | none => rw [hl] at e; cases e
    | some o =>
      obtain ⟨oc, od, dt, osl⟩ := o
      rw [hl] at e c6
      cases dt with
      | func z =>
        have hz : fdG K C f = z := by unfold fdG; rw [hl]
        rw [hz]
        obtain ⟨n1, n2, n3, n4, n5, n6, n7, n8, n9, n10, n11, n12, n13, n14, n15⟩ := z
        have e2 : (some (n1, n2, n3, n4, n5, n6, n7, n15) : He.FnW) = some (f, q, defArgs st, FuncBody.stmts (defBody st), defScope st, mainGlobals, [], builtinsNs) := e
        simp only [Option.some.injEq, Prod.mk.injEq] at e2
        obtain ⟨g1, g2, g3, g4, g5, g6, g7, g8⟩ := e2
        subst g1 g2 g3 g4 g5 g6 g7 g8
        obtain ⟨d1, d2⟩ := He.ba (show (PySem.W.codeIn K n13 _ && (He.dflB K n8 [] && He.kwdB K n9 [])) = true from c6)
        obtain ⟨d3, d4⟩ := He.ba d2
        exact ⟨⟨oc, od, n8, n9, n10, n11, n12, n13, n14, osl, rfl, hl, d1, He.dflB_ok d3, He.kwdB_ok d4⟩, c5⟩
      | _ => cases e
section
variable {K : PySem.W.Frag} {P : Addr → Prop} {F0 H0 F H : Hp} {Q : VK} {σ : L2.St} {C p dx : Addr} {sp : Sp} {dvs : List V} {E : XK} {ta : TE} {fs : List (Str × V)}
def prK (C : Addr) (sp : Sp) (dvs : List V) (E : XK) (Q : VK) : VK := fun x H1 => ∃ a dx fs, x = .ref a ∧ H1 a = some (.ins C dx fs) ∧ sp (.ref a :: dvs) H1 Q E
theorem rd_prop (k : ta σ H (prK C sp dvs E Q)) : tProp C sp dvs E ta σ H Q := k
theorem pr_at (h : H p = some (.ins C dx fs)) (k : sp (.ref p :: dvs) H Q E) : prK C sp dvs E Q (.ref p) H := ⟨p, dx, fs, rfl, h, k⟩
variable {n m : Nat} {gV : List V → List V → List V} {t tk : TA} {vs zs rest : List V}
def mkKk (C : Addr) (n m : Nat) (sp : Sp) (gV : List V → List V → List V) (E : XK) (Q : VK) (vs zs : List V) (H2 : Hp) : Prop := vs.length = n ∧ zs.length = m ∧ ∀ x dx, H2 x = none → H2 dx = none → dx ≠ x → sp (gV (.ref x :: vs) zs) (upd (upd H2 dx (.own x)) x (.ins C dx [])) (fun v H3 => v = .non ∧ Q (.ref x) H3) E
theorem rd_makeK (k : t σ H fun vs H1 => tk σ H1 fun zs H2 => mkKk C n m sp gV E Q vs zs H2) : tMakeK C n m sp gV E t tk σ H Q := k
theorem mkk_at (h1 : vs.length = n) (h2 : zs.length = m) (e : ∀ x, gV (.ref x :: vs) zs = .ref x :: rest) (k : mkK C sp E Q rest H) : mkKk C n m sp gV E Q vs zs H := ⟨h1, h2, fun x dx a b c => by rw [e]; exact k x dx a b c⟩
theorem rd_makeD (k : t σ H (mkK C (fun vs => sp (vs ++ dvs)) E Q)) : tMake C sp dvs E t σ H Q := k
theorem mkd_at (e : vs ++ dvs = rest) (k : mkK C sp E Q rest H) : mkK C (fun us => sp (us ++ dvs)) E Q vs H := fun x dx a b c => by
  show sp (.ref x :: (vs ++ dvs)) _ _ _
  rw [e]; exact k x dx a b c
end
def nB (b : Bool) : NestedKey := .num (if b = true then 1 else 0)
theorem nB_inj : ∀ a b : Bool, nB a = nB b → a = b := by decide
def kB : Kd qB := ⟨nB, fun {K F v a} h => by cases (show v = .bl a from h); exact .bl a, nB_inj, fun a => by show 0 ≤ 8; omega⟩
def k2 {α β : Type} {A : R α} {B : R β} (D : Kd A) (G : Kd B) (hd : ∀ a, (D.k a).depth ≤ 3) (hg : ∀ a, (G.k a).depth ≤ 3) : Kd (q2 A B) := ⟨fun x => .tup [D.k x.1, G.k x.2], fun {K F v a} h => by
    obtain ⟨p, u, w, rfl, h1, h2, h3⟩ := h
    exact .tup h1 (.cons (D.is h2) (.cons (G.is h3) .nil)), fun a b h => by
    have e := NestedKey.tup.inj h
    obtain ⟨e1, e2⟩ := List.cons.inj e
    obtain ⟨e2, _⟩ := List.cons.inj e2
    exact Prod.ext (D.inj _ _ e1) (G.inj _ _ e2), fun a => by
    rw [NestedKey.depth]
    have h1 := hd a.1
    have h2 := hg a.2
    simp only [NestedKey.depthAll]
    omega⟩
def kBB : Kd (q2 qB qB) := k2 kB kB (fun _ => by show 0 ≤ 3; omega) (fun _ => by show 0 ≤ 3; omega)
section
variable {K : PySem.W.Frag} {P : Addr → Prop} {F0 H0 F H : Hp} {p : Addr} {us : List V} {u : V} {Q : VK} {i : Int} {α : Type} {B : RR α} {a : α}
theorem rd_setO {R : Hp → Prop} {us' : List V} {j : Nat} (S : Sx P F0 H0 F H) (w : Ow P H0 F H p (.lst us)) (e : ixN us.length i = some j) (e2 : us.set j u = us') (k : ∀ H', Sx (fun a => a = p) F H F H' → Ow P H0 F H' p (.lst us') → R H') : rSetL (.ref p) (.int i) u H R :=
  ⟨p, us, i, j, rfl, rfl, w.at_, e, by rw [e2]; exact k _ (putS S w) w.put⟩
theorem fzRec (S : Sx P F0 H0 F H) (w : Ow P H0 F H p (.lst us)) (h0 : H0 p = none) (row : B.r K F us a) : ∃ F', Sx P F0 H0 F' H ∧ Same F F' ∧ (qLr B).r K F' (.ref p) a ∧ ∀ q, q ≠ p → F' q = F q :=
  ⟨_, S.freeze w h0, w.leF, ⟨p, us, rfl, upd_same, B.mono w.leF row⟩, fun _ n => upd_ne n⟩
end
class OrdR {α : Type} {B : RR α} (E : DatR B) where
  n : Nat
  al : ∀ a b, PySem.W.alikeAll (E.d a) (E.d b) = true
  dep : ∀ a, PyData.depthAll (E.d a) ≤ n
instance orE1 {α : Type} {A : R α} {D : Dat A} [o : Ord1 D] : OrdR (e1 D) where
  n := o.n
  al := fun a b => by
    show PySem.W.alikeAll [D.d a] [D.d b] = true
    simp [PySem.W.alikeAll, o.al]
  dep := fun a => by
    show PyData.depthAll [D.d a] ≤ _
    have := o.dep a
    simp only [PyData.depthAll]
    omega
instance orEc {α β : Type} {A : R α} {B : RR β} {D : Dat A} {E : DatR B} [o : Ord1 D] [p : OrdR E] : OrdR (ec D E) where
  n := max o.n p.n
  al := fun a b => by
    show PySem.W.alikeAll (D.d a.1 :: E.d a.2) (D.d b.1 :: E.d b.2) = true
    rw [PySem.W.alikeAll, o.al, p.al]; rfl
  dep := fun a => by
    show PyData.depthAll (D.d a.1 :: E.d a.2) ≤ _
    have h1 := o.dep a.1
    have h2 := p.dep a.2
    simp only [PyData.depthAll]
    omega
instance orTr {α β : Type} {A : R α} {B : RR β} {D : Dat A} {E : DatR B} [o : Ord1 D] [p : OrdR E] : Ordd (dTr (ec D E)) where
  n := max o.n p.n + 1
  al := fun a b => by
    show PySem.W.alike (.tuple ((ec D E).d a)) (.tuple ((ec D E).d b)) = true
    rw [PySem.W.alike]; exact (orEc (D := D) (E := E)).al a b
  dep := fun a => by
    show (PyData.tuple ((ec D E).d a)).depth ≤ _
    rw [PyData.depth]
    have := (orEc (D := D) (E := E)).dep a
    exact Nat.succ_le_succ this
  srt := fun bs => PySem.W.Sortable.tuples fun b => ⟨_, _, rfl⟩
end Gl
namespace Gl
open PySem PySem.Spec PyProof.Rows L2 C8
theorem R.r.up {α : Type} {A : R α} {K : PySem.W.Frag} {P : Addr → Prop} {F H F' H' : Hp} {v : V} {a : α} (h : A.r K F v a) (c : Sx P F H F' H') : A.r K F' v a := A.mono c.le h
section
variable {K : PySem.W.Frag} {P : Addr → Prop} {F H F' H' : Hp}
theorem up2 {α0 α1 : Type} {A0 : R α0} {v0 : V} {a0 : α0} {A1 : R α1} {v1 : V} {a1 : α1} (h0 : A0.r K F v0 a0) (h1 : A1.r K F v1 a1) (c : Sx P F H F' H') : A0.r K F' v0 a0 ∧ A1.r K F' v1 a1 := ⟨h0.up c, h1.up c⟩
theorem up3 {α0 α1 α2 : Type} {A0 : R α0} {v0 : V} {a0 : α0} {A1 : R α1} {v1 : V} {a1 : α1} {A2 : R α2} {v2 : V} {a2 : α2} (h0 : A0.r K F v0 a0) (h1 : A1.r K F v1 a1) (h2 : A2.r K F v2 a2) (c : Sx P F H F' H') : A0.r K F' v0 a0 ∧ A1.r K F' v1 a1 ∧ A2.r K F' v2 a2 := ⟨h0.up c, h1.up c, h2.up c⟩
theorem up4 {α0 α1 α2 α3 : Type} {A0 : R α0} {v0 : V} {a0 : α0} {A1 : R α1} {v1 : V} {a1 : α1} {A2 : R α2} {v2 : V} {a2 : α2} {A3 : R α3} {v3 : V} {a3 : α3} (h0 : A0.r K F v0 a0) (h1 : A1.r K F v1 a1) (h2 : A2.r K F v2 a2) (h3 : A3.r K F v3 a3) (c : Sx P F H F' H') : A0.r K F' v0 a0 ∧ A1.r K F' v1 a1 ∧ A2.r K F' v2 a2 ∧ A3.r K F' v3 a3 := ⟨h0.up c, h1.up c, h2.up c, h3.up c⟩
theorem up5 {α0 α1 α2 α3 α4 : Type} {A0 : R α0} {v0 : V} {a0 : α0} {A1 : R α1} {v1 : V} {a1 : α1} {A2 : R α2} {v2 : V} {a2 : α2} {A3 : R α3} {v3 : V} {a3 : α3} {A4 : R α4} {v4 : V} {a4 : α4} (h0 : A0.r K F v0 a0) (h1 : A1.r K F v1 a1) (h2 : A2.r K F v2 a2) (h3 : A3.r K F v3 a3) (h4 : A4.r K F v4 a4) (c : Sx P F H F' H') : A0.r K F' v0 a0 ∧ A1.r K F' v1 a1 ∧ A2.r K F' v2 a2 ∧ A3.r K F' v3 a3 ∧ A4.r K F' v4 a4 := ⟨h0.up c, h1.up c, h2.up c, h3.up c, h4.up c⟩
theorem up6 {α0 α1 α2 α3 α4 α5 : Type} {A0 : R α0} {v0 : V} {a0 : α0} {A1 : R α1} {v1 : V} {a1 : α1} {A2 : R α2} {v2 : V} {a2 : α2} {A3 : R α3} {v3 : V} {a3 : α3} {A4 : R α4} {v4 : V} {a4 : α4} {A5 : R α5} {v5 : V} {a5 : α5} (h0 : A0.r K F v0 a0) (h1 : A1.r K F v1 a1) (h2 : A2.r K F v2 a2) (h3 : A3.r K F v3 a3) (h4 : A4.r K F v4 a4) (h5 : A5.r K F v5 a5) (c : Sx P F H F' H') : A0.r K F' v0 a0 ∧ A1.r K F' v1 a1 ∧ A2.r K F' v2 a2 ∧ A3.r K F' v3 a3 ∧ A4.r K F' v4 a4 ∧ A5.r K F' v5 a5 := ⟨h0.up c, h1.up c, h2.up c, h3.up c, h4.up c, h5.up c⟩
end
section
variable {F H F' H' : Hp}
theorem wup2 {Q0 P1 : Addr → Prop} {H0 H1 : Hp} {p0 p1 : Addr} {o0 o1 : HO} (h0 : Ow Q0 H0 F H p0 o0) (h1 : Ow P1 H1 F H p1 o1) (c : Sx P0 F H F' H') : Ow Q0 H0 F' H' p0 o0 ∧ Ow P1 H1 F' H' p1 o1 := ⟨h0.call0 c, h1.call0 c⟩
end
section
variable {α : Type} {A : R α} {K : PySem.W.Frag} {F H H0 : Hp} {P : Addr → Prop} {p : Addr} {vs : List V} {xs : List α}
theorem Ow.dS (w : Ow P H0 F H p (.lst vs)) (S : Same F H) (D : Dat A) (r : Row A K F vs xs) : SeenD (dL D) K H (.ref p) xs := .lst (SqL.of w.at_) (dpAll D (Row.mono S r))
end
end Gl
namespace Gl
open PySem PySem.Spec PyProof.Rows L2
class KDp {α : Type} {A : R α} (D : Kd A) where
  n : Nat
  le : ∀ a, (D.k a).depth ≤ n
  nn : ∀ a, D.k a ≠ .none
instance : KDp kI := ⟨0, fun _ => Nat.le_refl _, fun _ h => by cases h⟩
instance : KDp kB := ⟨0, fun _ => Nat.le_refl _, fun _ h => by cases h⟩
def kS : Kd qS := ⟨.text, fun {K F v a} h => by cases (show v = .str a from h); exact .txt a, fun a b h => by cases h; rfl, fun a => by show 0 ≤ 8; omega⟩
instance : KDp kS := ⟨0, fun _ => Nat.le_refl _, fun _ h => by cases h⟩
def kO {α : Type} {A : R α} (D : Kd A) [i : KDp D] : Kd (qO A) := ⟨fun o => match o with
  | none => .none
  | some a => D.k a, fun {K F v a} h => by
    cases a with
    | none => cases (show v = .non from h); exact .non
    | some a => exact D.is h, fun a b h => by
    cases a with
    | none => cases b with
      | none => rfl
      | some b => exact absurd h.symm (i.nn b)
    | some a => cases b with
      | none => exact absurd h (i.nn a)
      | some b => exact congrArg some (D.inj a b h), fun a => by
    cases a with
    | none => show 0 ≤ 8; omega
    | some a => exact D.dep a⟩
structure KdR {α : Type} (B : RR α) where
  ks : α → List NestedKey
  is : ∀ {K : PySem.W.Frag} {F : Hp} {vs : List V} {a : α}, B.r K F vs a → NKs K F (ks a) vs
  inj : ∀ a b : α, ks a = ks b → a = b
  dep : ∀ a : α, NestedKey.depthAll (ks a) ≤ 7
class KLow {α : Type} {A : R α} (D : Kd A) : Prop where
  le : ∀ a, (D.k a).depth ≤ 7
instance : KLow kI := ⟨fun _ => by show 0 ≤ 7; omega⟩
instance : KLow kB := ⟨fun _ => by show 0 ≤ 7; omega⟩
instance : KLow kS := ⟨fun _ => by show 0 ≤ 7; omega⟩
instance {α : Type} {A : R α} {D : Kd A} [i : KDp D] [j : KLow D] : KLow (kO D) := ⟨fun a => by
  cases a with
  | none => show 0 ≤ 7; omega
  | some a => exact j.le a⟩
instance : KLow kBB := ⟨fun a => by
  show NestedKey.depth (.tup [nB a.1, nB a.2]) ≤ 7
  rw [NestedKey.depth]
  simp only [NestedKey.depthAll]
  have h1 : (nB a.1).depth = 0 := rfl
  have h2 : (nB a.2).depth = 0 := rfl
  omega⟩
def g1 {α : Type} {A : R α} (D : Kd A) [i : KLow D] : KdR (f1 A) := ⟨fun a => [D.k a], fun ⟨u, h1, h2⟩ => by subst h1; exact .cons (D.is h2) .nil, fun a b h => D.inj _ _ (List.cons.inj h).1, fun a => by
  simp only [NestedKey.depthAll]
  have := i.le a
  omega⟩
section
variable {K : PySem.W.Frag} {P : Addr → Prop} {F0 H0 F H : Hp} {v w : V} {Q : VK} {α β γ : Type} {B : RR α} {C : RR β} {D : RR γ} {a : α} {b : β} {d : γ} {lo hi : Option Int}
theorem alR {p : Addr} {us : List V} (S : Sx P F0 H0 F H) (k : ∀ v' F' H', Sx P0 F H F' H' → (qLr B).r K F' v' a → Q v' H') (hn : H p = none) (r : B.r K F us a) : Q (.ref p) (upd H p (.lst us)) := by
  have le : Same F (upd F p (.lst us)) := fun q o e => by
    by_cases hq : q = p
    · subst hq
      exact absurd (S.sub _ _ e) (by rw [hn]; exact fun z => nomatch z)
    · rw [upd_ne hq]; exact e
  have c : Sx P0 F H (upd F p (.lst us)) (upd H p (.lst us)) := ((Sx.refl0 S.sub).temp hn).freeze ((Sx.refl0 S.sub).own hn) hn
  exact k _ _ _ c ⟨p, us, rfl, upd_same, B.mono le r⟩
theorem rd_slR (S : Sx P F0 H0 F H) (f : (qLr B).r K F v a) (h : ∀ us, B.r K F us a → C.r K F (cutV us lo hi) b) (k : ∀ v' F' H', Sx P0 F H F' H' → (qLr C).r K F' v' b → Q v' H') : rSlL K v lo hi H Q := by
  obtain ⟨p, us, rfl, h1, r⟩ := f
  exact ⟨p, us, rfl, SqL.of (S.sub _ _ h1), fun q hq => alR S k hq (h us r)⟩
end
def cvB (K : PySem.W.Frag) (C : Addr) (f z : Str) : Bool := PySem.W.readsIn K C (.type "type") && (decide (PySem.W.specialIn K (.ref C) "__getattribute__" = some (some (.builtin "type.__getattribute__"))) && (match PySem.W.findCls K (.ref C) (.type "type") f with
  | some (.val (.str s _)) => decide (s = z)
  | _ => false))
theorem cv_at {K : PySem.W.Frag} {C : Addr} {f z : Str} {H : Hp} {Q : VK} (c : cvB K C f z = true) (k : Q (.str z) H) : ∃ C' mc v u, V.ref C = V.ref C' ∧ ClX.CRead K C' mc ∧ ClX.CVal K C' mc f v u ∧ Q v H := by
  unfold cvB at c
  obtain ⟨c1, c2⟩ := Bool.and_eq_true_iff.mp c
  obtain ⟨d2, c3⟩ := Bool.and_eq_true_iff.mp c2
  clear c2 c
  cases e : PySem.W.findCls K (.ref C) (.type "type") f with
  | none => rw [e] at c3; cases c3
  | some o =>
    rw [e] at c3
    cases o with
    | val u =>
      cases u with
      | str s t =>
        have : s = z := of_decide_eq_true c3
        subst this
        exact ⟨C, .type "type", .str s, .str s t, rfl, ⟨c1, of_decide_eq_true d2⟩, ⟨e, ⟨t, rfl⟩⟩, k⟩
      | _ => cases c3
    | _ => cases c3
theorem rd_cval {K : PySem.W.Frag} {ta : TE} {f : Str} {σ : L2.St} {H : Hp} {Q : VK} (k : ta σ H fun x H1 => ∃ C mc v u, x = V.ref C ∧ ClX.CRead K C mc ∧ ClX.CVal K C mc f v u ∧ Q v H1) : ClX.tCVal K ta f σ H Q := k
theorem rd_cvalC {K : PySem.W.Frag} {C : Addr} {f z : Str} {σ : L2.St} {H : Hp} {Q : VK} (c : cvB K C f z = true) (k : Q (.str z) H) : ClX.tCVal K (tC (V.ref C)) f σ H Q := rd_cval (rd_c (cv_at c k))
theorem pe_cvalK {X : Cx} {K : PySem.W.Frag} {e : Expr} {f : Str} {pos : Pos} {ta : TE} (he : PE X e ta) (hK : X.K = K := by rfl) (hb : attributeBase e f X.env (eval e X.env) = eval e X.env := by rfl) : PE X (.Attribute e f pos) (ClX.tCVal K ta f) := by
  subst hK; exact ClX.pe_cval he hb
def smA (K : PySem.W.Frag) (C f : Str) : Addr := match PySem.W.findCls K (.ref (He.ga K C)) (.type "type") f with
  | some (.get _ (.ref p) _ _) => p
  | _ => 0
def sgA (K : PySem.W.Frag) (C f : Str) : Addr := match PySem.W.recIn K (smA K C f) "staticmethod" with
  | some (.ref g :: _) => g
  | _ => 0
def fnT (K : PySem.W.Frag) (C f : Str) : He.FnW := match K.lookup (sgA K C f) with
  | some ⟨_, _, .func z, _⟩ => some (z.name, z.qualname, z.params, z.body, z.scope, z.globals, z.closure, z.builtins)
  | _ => none
def fdT (K : PySem.W.Frag) (C f : Str) : FuncData := match K.lookup (sgA K C f) with
  | some ⟨_, _, .func z, _⟩ => z
  | _ => fdDefault
def smB (K : PySem.W.Frag) (C f q : Str) : Bool :=
  PySem.W.readsIn K (He.ga K C) (.type "type") && (decide (PySem.W.specialIn K (.ref (He.ga K C)) "__getattribute__" = some (some (.builtin "type.__getattribute__"))) &&
  ((match PySem.W.findCls K (.ref (He.ga K C)) (.type "type") f with
    | some (.get (.builtin g) (.ref p) .none (.ref D)) => decide (g = "staticmethod.__get__") && (decide (p = smA K C f) && decide (D = He.ga K C))
    | _ => false) && ((match PySem.W.recIn K (smA K C f) "staticmethod" with
    | some (.ref g :: _) => decide (g = sgA K C f)
    | _ => false) && (PySem.W.keepIn K (.ref (sgA K C f)) && (match K.lookup (sgA K C f) with
    | some ⟨_, _, .func z, _⟩ => PySem.W.codeIn K z.code q && (He.dflB K z.defaults [] && He.kwdB K z.kwdefaults [])
    | _ => false)))))
structure Sm (K : PySem.W.Frag) (C f q : Str) (st : Stmt) : Prop where
  rd : ClX.CRead K (He.ga K C) (.type "type")
  at_ : PySem.W.findCls K (.ref (He.ga K C)) (.type "type") f = some (.get (.builtin "staticmethod.__get__") (.ref (smA K C f)) .none (.ref (He.ga K C)))
  rc : ∃ rest, PySem.W.recIn K (smA K C f) "staticmethod" = some (.ref (sgA K C f) :: rest)
  kp : PySem.W.keepIn K (.ref (sgA K C f)) = true
  F : FunD K f q (defArgs st) (defBody st) (defScope st) [] [] (sgA K C f) (fdT K C f)
theorem sm_ok {K : PySem.W.Frag} {C f q : Str} {st : Stmt} (c : smB K C f q = true) (e : fnT K C f = some (f, q, defArgs st, FuncBody.stmts (defBody st), defScope st, mainGlobals, [], builtinsNs)) : Sm K C f q st := by
  unfold smB at c
  obtain ⟨c1, c⟩ := He.ba c
  obtain ⟨c2, c⟩ := He.ba c
  obtain ⟨c3, c⟩ := He.ba c
  obtain ⟨c4, c⟩ := He.ba c
  obtain ⟨c5, c6⟩ := He.ba c
  refine ⟨⟨c1, of_decide_eq_true c2⟩, ?_, ?_, c5, ?_⟩
  · clear c4 c5 c6 e
    revert c3
    split
    · rename_i g p D hf
      intro c3
      obtain ⟨d1, d2⟩ := He.ba c3
      obtain ⟨d2, d3⟩ := He.ba d2
      rw [hf, of_decide_eq_true d1, of_decide_eq_true d2, of_decide_eq_true d3]
    · intro c3; cases c3
  · revert c4
    split
    · rename_i g r hr
      intro c4
      exact ⟨r, by rw [hr, of_decide_eq_true c4]⟩
    · intro c4; cases c4
  · unfold fnT at e
    cases hl : K.lookup (sgA K C f) with
    | none => rw [hl] at e; cases e
    | some o =>
      obtain ⟨oc, od, dt, osl⟩ := o
      rw [hl] at e c6
      cases dt with
      | func z =>
        have hz : fdT K C f = z := by unfold fdT; rw [hl]
        rw [hz]
        obtain ⟨n1, n2, n3, n4, n5, n6, n7, n8, n9, n10, n11, n12, n13, n14, n15⟩ := z
        have e2 : (some (n1, n2, n3, n4, n5, n6, n7, n15) : He.FnW) = some (f, q, defArgs st, FuncBody.stmts (defBody st), defScope st, mainGlobals, [], builtinsNs) := e
        simp only [Option.some.injEq, Prod.mk.injEq] at e2
        obtain ⟨g1, g2, g3, g4, g5, g6, g7, g8⟩ := e2
        subst g1 g2 g3 g4 g5 g6 g7 g8
        obtain ⟨d1, d2⟩ := He.ba (show (PySem.W.codeIn K n13 _ && (He.dflB K n8 [] && He.kwdB K n9 [])) = true from c6)
        obtain ⟨d3, d4⟩ := He.ba d2
        exact ⟨⟨oc, od, n8, n9, n10, n11, n12, n13, n14, osl, rfl, hl, d1, He.dflB_ok d3, He.kwdB_ok d4⟩, c5⟩
      | _ => cases e
def tSm (C : Addr) (sp : Sp) (E : XK) (ta : TE) (t : TA) : TE := fun σ H Q => ta σ H fun x H1 => x = .ref C ∧ t σ H1 fun vs H2 => sp vs H2 Q E
section
variable {X : Cx} {CX : CXT} {k : Nat} {C m q : Str} {st : Stmt} {sp : Sp} {E : XK} {o e : Expr} {es : List Expr} {pos apos : Pos} {ta : TE} {t : TA} {pl : Sem Bool} {ps : List Str} {fd : FuncData}
theorem getm_sm {pins : List (Addr × Obj)} {σ : L2.St} {H : Hp} {s : Shared} {A : Around} {Ex : Value → Shared → Prop} {Q : Value × List Value → Shared → Prop} (I : Inv X pins σ H s) (c : Sm X.K C m q st) (h : ∀ s', Inv X pins σ H s' → Q (.ref (sgA X.K C m), []) s') :
    wpAny (model X.prog X.w) A (getMethod (.ref (He.ga X.K C)) m pl) Q Ex s := by
  obtain ⟨rest, hp⟩ := c.rc
  refine PySem.W.method_cls I.kIn c.rd.ga (PySem.W.cls_bind I.kIn c.rd.rd c.at_ (wpAny_call (PySem.W.sm_get (s := { s with toks := s.toks + 1 }) I.kIn hp (PySem.W.handed_on rfl ?_))))
  exact h _ (I.tok _)
theorem pe_sm (he : PE X o ta) (c : Sm X.K C m q st) (F : FnR X.prog X.w X.K X.mg X.base CX k (sgA X.K C m) sp) (hr : Room k X.A) (hx : Passes CX X E) (ha : PA X (e :: es) t)
    (hst : starEach (e :: es) X.env = (false, eval e X.env) :: starEach es X.env := by rfl) (hpl : (backTo pos (starEach es X.env)).any (·.1) = false := by rfl)
    (ht : eval (.Call (.Attribute o m apos) (e :: es) [] pos) X.env = (do
      let ov ← eval o X.env
      standAt apos.atName
      let (f, first) ← holding [ov] (getMethod ov m pl)
      callWith pos f first (backTo pos (starEach (e :: es) X.env)) (backToKw pos (keywordEach [] X.env))) := by rfl) :
    PE X (.Call (.Attribute o m apos) (e :: es) [] pos) (tSm (He.ga X.K C) sp E ta t) := by
  refine ⟨fun pins s σ H Q I h => ?_⟩
  refine PySem.W.methodCall_KW (pl := pl) (thn (he.run pins s σ H _ I h) fun u s1 ⟨x, H1, I1, rx, ex, q⟩ => ?_) ht
  subst ex
  obtain rfl : u = Value.ref (He.ga X.K C) := rx
  refine getm_sm I1 c fun s2 I2 => ?_
  refine PySem.W.callWith_K (h₀ := X.base) I.ok.mod.kin c.kp (thn (ha.run pos pins s2 σ H1 _ I2 q) fun us s3 ⟨vs, H2, I3, r, q2⟩ => ⟨I3.kIn, ?_⟩) hst hpl
  exact wpAny_call (run_fnR F hr hx I3 r q2)
theorem pe_sm0 (he : PE X o ta) (c : Sm X.K C m q st) (F : FnOk X.prog X.w X.K X.mg X.base CX k (sgA X.K C m) fd ps sp) (hr : Room k X.A) (hb : Binds X.K fd ps []) (hx : Passes CX X E)
    (ht : eval (.Call (.Attribute o m apos) [] [] pos) X.env = (do
      let ov ← eval o X.env
      standAt apos.atName
      let (f, first) ← holding [ov] (getMethod ov m pl)
      callWith pos f first (backTo pos (starEach [] X.env)) (backToKw pos (keywordEach [] X.env))) := by rfl) :
    PE X (.Call (.Attribute o m apos) [] [] pos) (tSm (He.ga X.K C) sp E ta tNil) := by
  refine ⟨fun pins s σ H Q I h => ?_⟩
  refine PySem.W.methodCall_KW (pl := pl) (thn (he.run pins s σ H _ I h) fun u s1 ⟨x, H1, I1, rx, ex, q⟩ => ?_) ht
  subst ex
  obtain rfl : u = Value.ref (He.ga X.K C) := rx
  refine getm_sm I1 c fun s2 I2 => ?_
  exact PySem.W.callWith_K0 I2.kIn c.kp (run_fn (us := []) F hr hb .nil hx I2 .nil q)
theorem pe_smK {K : PySem.W.Frag} (he : PE X o ta) (c : Sm K C m q st) (F : FnR X.prog X.w K X.mg X.base CX k (sgA K C m) sp) (hr : Room k X.A) (hx : Passes CX X E) (ha : PA X (e :: es) t) (hK : X.K = K := by rfl)
    (hst : starEach (e :: es) X.env = (false, eval e X.env) :: starEach es X.env := by rfl) (hpl : (backTo pos (starEach es X.env)).any (·.1) = false := by rfl)
    (ht : eval (.Call (.Attribute o m apos) (e :: es) [] pos) X.env = (do
      let ov ← eval o X.env
      standAt apos.atName
      let (f, first) ← holding [ov] (getMethod ov m pl)
      callWith pos f first (backTo pos (starEach (e :: es) X.env)) (backToKw pos (keywordEach [] X.env))) := by rfl) :
    PE X (.Call (.Attribute o m apos) (e :: es) [] pos) (tSm (He.ga K C) sp E ta t) := by
  subst hK; exact pe_sm he c F hr hx ha hst hpl ht
theorem pe_sm0K {K : PySem.W.Frag} (he : PE X o ta) (c : Sm K C m q st) (F : FnOk X.prog X.w K X.mg X.base CX k (sgA K C m) fd ps sp) (hr : Room k X.A) (hb : Binds K fd ps []) (hx : Passes CX X E) (hK : X.K = K := by rfl)
    (ht : eval (.Call (.Attribute o m apos) [] [] pos) X.env = (do
      let ov ← eval o X.env
      standAt apos.atName
      let (f, first) ← holding [ov] (getMethod ov m pl)
      callWith pos f first (backTo pos (starEach [] X.env)) (backToKw pos (keywordEach [] X.env))) := by rfl) :
    PE X (.Call (.Attribute o m apos) [] [] pos) (tSm (He.ga K C) sp E ta tNil) := by
  subst hK; exact pe_sm0 he c F hr hb hx ht
theorem bind_star0 {B : List Value → Sem (List (Str × Value))} {pv : Str} (h0 : B [] = (newTuple [] >>= fun t => pure [(pv, t)])) (h1 : ∀ r rs, B (r :: rs) = (newTuple (r :: rs) >>= fun t => pure [(pv, t)])) :
    ∀ us rest : List Value, us.length = ([] : List Str).length → B (us ++ rest) = (newTuple rest >>= fun t => pure (([] : List Str).zip us ++ [(pv, t)]))
  | [], [], _ => h0
  | [], r :: rs, _ => h1 r rs
end
section
variable {P : Addr → Prop} {F0 H0 F H : Hp} {K : PySem.W.Frag} {Q : VK} {E : XK} {sp : Sp} {C : Addr} {σ : L2.St} {ta : TE} {t : TA}
theorem rd_sm (k : ta σ H fun x H1 => x = .ref C ∧ t σ H1 fun vs H2 => sp vs H2 Q E) : tSm C sp E ta t σ H Q := k
theorem sm_at {R : List V → Hp → Prop} (k : t σ H R) : (V.ref C = V.ref C) ∧ t σ H R := ⟨rfl, k⟩
theorem st_star {α : Type} {A : R α} {vs : List V} {xs : List α} (S : Sx P F0 H0 F H) (r : Row A K F vs xs) (hl : Nat.ble vs.length 900 = true)
    (k : ∀ v F1 H1, Sx P0 F H F1 H1 → (qT A).r K F1 v xs → sp [v] H1 Q E) : starSp 0 sp vs H Q E := by
  refine ⟨[], vs, rfl, rfl, Nat.le_trans (Nat.le_of_ble_eq_true hl) (Nat.le_trans (by decide) (show 1000 ≤ sizeLine by rw [sizeLine_eq]; decide)), fun p hp => ?_⟩
  have c2 := (Sx.refl0 S.sub).alloc (o := .tup vs) hp
  exact k (.ref p) _ _ c2 ⟨p, vs, rfl, .inl (.inl upd_same), Row.mono c2.le r⟩
end
end Gl
namespace Gl
open PySem PySem.Spec PyProof.Rows L2
end Gl
namespace Gl
open PySem PySem.Spec PyProof.Rows L2
end Gl
namespace Gl
open PySem PySem.Spec PyProof.Rows L2 C8
def putSd (k : Str) (t : Th) (xs : List (Str × Th)) : List (Str × Th) := if (xs.any fun x => decide (x.1 = k)) = true then xs.map (fun x => if x.1 = k then (x.1, t) else x) else xs ++ [(k, t)]
section
variable {K : PySem.W.Frag} {F : Hp}
theorem SdRow.put {k : Str} {u : V} {t : Th} {kvs : List (Key × V)} {xs : List (Str × Th)} (r : SdRow K F kvs xs) (h : qTh.r K F u t) : SdRow K F (putK kvs (.inr k) u) (putSd k t xs) := by
  have e : (kvs.any fun kv => decide (kv.1 = (.inr k : Key))) = (xs.any fun x => decide (x.1 = k)) := by
    induction r with
    | nil => rfl
    | cons p q ih => rw [List.any_cons, List.any_cons, ih, p.1]; congr 1; exact decide_eq_decide.mpr ⟨fun z => Sum.inr.inj z, fun z => congrArg _ z⟩
  unfold putK putSd
  rw [e]
  split
  · rename_i hh; clear hh e
    induction r with
    | nil => exact .nil
    | @cons a b _ _ p q ih =>
      refine .cons ?_ ih
      show (if a.1 = .inr k then (a.1, u) else a).1 = Sum.inr (if b.1 = k then (b.1, t) else b).1 ∧ qTh.r K F (if a.1 = .inr k then (a.1, u) else a).2 (if b.1 = k then (b.1, t) else b).2
      by_cases z : b.1 = k
      · rw [if_pos z, if_pos (by rw [p.1, z])]; exact ⟨p.1, h⟩
      · rw [if_neg z, if_neg (by rw [p.1]; exact fun y => z (Sum.inr.inj y))]; exact p
  · rename_i hh; clear hh e
    induction r with
    | nil => exact .cons ⟨rfl, h⟩ .nil
    | cons p q ih => exact .cons p ih
end
section
variable {K : PySem.W.Frag} {P : Addr → Prop} {F0 H0 F H : Hp} {v1 v2 : V} {xs ys : List (Str × Th)} {t1 t2 : TE} {σ : L2.St} {Q : VK}
theorem SdRow.len {kvs : List (Key × V)} (r : SdRow K F kvs xs) : kvs.length = xs.length := by
  induction r with
  | nil => rfl
  | cons _ _ ih => rw [List.length_cons, List.length_cons, ih]
end
end Gl
namespace Gl
open PySem PySem.Spec PyProof.Rows L2
theorem if_or {β : Type} {b : Bool} {m1 m2 : Option β} {r : β} (hm : (if b = true then m1 else m2) = some r) : (b = true ∧ m1 = some r) ∨ (b = false ∧ m2 = some r) := by
  cases b with
  | true => exact .inl ⟨rfl, hm⟩
  | false => exact .inr ⟨rfl, hm⟩
end Gl
namespace Gl
open PySem PySem.Spec PyProof.Rows L2
theorem pe_tupleOfK {X : Cx} {K : PySem.W.Frag} {p pos : Pos} {a : Expr} {ta : TE} (hK : X.K = K) (hg : L2.Gl X "tuple") (hm : X.mg "tuple" = none) (ha : PE X a ta) (na : starEach [a] X.env = (false, eval a X.env) :: starEach [] X.env := by rfl) :
    PE X (.Call (.Name "tuple" p) [a] [] pos) (tThen ta (kTup K)) := hK ▸ pe_tupleOf hg hm ha na
end Gl
namespace Gl
open PySem PySem.Spec PyProof.Rows L2
theorem dk {p : Prop} [Decidable p] (h : decide p = true) : p := of_decide_eq_true h
instance locDec {sc : Scope} {x : Str} : Decidable (Loc sc x) := inferInstanceAs (Decidable (sc.names.lookup x = some .local ∨ sc.names.lookup x = some .cell))
end Gl
namespace Gl
open PySem PySem.Spec PyProof.Rows L2
def thFlat : Th → Bool
  | .d .none => true
  | .d (.bool _) => true
  | .d (.int _) => true
  | .d (.str _) => true
  | _ => false
def thEqv : Th → Th → Bool
  | .d .none, .d .none => true
  | .d (.bool a), .d (.bool b) => a == b
  | .d (.bool a), .d (.int b) => (if a then 1 else 0) == b
  | .d (.int a), .d (.bool b) => a == (if b then 1 else 0)
  | .d (.int a), .d (.int b) => a == b
  | .d (.str a), .d (.str b) => a == b
  | _, _ => false
def sdHits (ys : List (Str × Th)) : List (Str × Th) → Option Bool
  | [] => some true
  | x :: xs => match getSd x.1 ys with
    | none => some false
    | some t => if (thFlat x.2 && thFlat t) = true then (sdHits ys xs).map (fun b => thEqv x.2 t && b) else none
def sdq (xs ys : List (Str × Th)) : Option Bool := (sdHits ys xs).map (fun b => decide (xs.length = ys.length) && b)
section
variable {K : PySem.W.Frag} {P : Addr → Prop} {F0 H0 F F' H : Hp} {v w : V} {xs ys : List (Str × Th)} {Q : VK}
theorem th_flat {a : Th} (r : qTh.r K F v a) (h : thFlat a = true) : flatV v = true := by
  cases a with
  | dct => exact absurd (show false = true from h) Bool.false_ne_true
  | d x =>
    cases x with
    | none => cases (show Dp K F v .none from r); rfl
    | bool b => cases (show Dp K F v (.bool b) from r); rfl
    | int b => cases (show Dp K F v (.int b) from r); rfl
    | str b => cases (show Dp K F v (.str b) from r); rfl
    | _ => exact absurd (show false = true from h) Bool.false_ne_true
theorem th_eqv {a b : Th} (r : qTh.r K F v a) (t : qTh.r K F' w b) (h : thFlat a = true) (g : thFlat b = true) : eqV v w = thEqv a b := by
  cases a with
  | dct => exact absurd (show false = true from h) Bool.false_ne_true
  | d x =>
    cases b with
    | dct => exact absurd (show false = true from g) Bool.false_ne_true
    | d y =>
      cases x with
      | none =>
        cases (show Dp K F v .none from r)
        cases y with
        | none => cases (show Dp K F' w .none from t); rfl
        | bool b => cases (show Dp K F' w (.bool b) from t); rfl
        | int b => cases (show Dp K F' w (.int b) from t); rfl
        | str b => cases (show Dp K F' w (.str b) from t); rfl
        | _ => exact absurd (show false = true from g) Bool.false_ne_true
      | bool c =>
        cases (show Dp K F v (.bool c) from r)
        cases y with
        | none => cases (show Dp K F' w .none from t); rfl
        | bool b => cases (show Dp K F' w (.bool b) from t); rfl
        | int b => cases (show Dp K F' w (.int b) from t); rfl
        | str b => cases (show Dp K F' w (.str b) from t); rfl
        | _ => exact absurd (show false = true from g) Bool.false_ne_true
      | int c =>
        cases (show Dp K F v (.int c) from r)
        cases y with
        | none => cases (show Dp K F' w .none from t); rfl
        | bool b => cases (show Dp K F' w (.bool b) from t); rfl
        | int b => cases (show Dp K F' w (.int b) from t); rfl
        | str b => cases (show Dp K F' w (.str b) from t); rfl
        | _ => exact absurd (show false = true from g) Bool.false_ne_true
      | str c =>
        cases (show Dp K F v (.str c) from r)
        cases y with
        | none => cases (show Dp K F' w .none from t); rfl
        | bool b => cases (show Dp K F' w (.bool b) from t); rfl
        | int b => cases (show Dp K F' w (.int b) from t); rfl
        | str b => cases (show Dp K F' w (.str b) from t); rfl
        | _ => exact absurd (show false = true from g) Bool.false_ne_true
      | _ => exact absurd (show false = true from h) Bool.false_ne_true
theorem sd_hits {A : Around} {s : Shared} {ls : List (Key × V)} {vb : List (Key × Value)} (rb : KV ls vb) (sb : SdRow K F ls ys) :
    ∀ {ks : List (Key × V)} {va : List (Key × Value)} {xs : List (Str × Th)} {r : Bool}, KV ks va → SdRow K F' ks xs → sdHits ys xs = some r → PySem.W.KeqHits A s vb va r := by
  intro ks va xs r ra sa
  unfold KV at ra
  induction sa generalizing va r with
  | nil => intro h; cases ra; cases h; exact .nil
  | @cons kv x kvs xs h1 h2 ih =>
    intro h
    cases ra with
    | @cons _ q _ qs e1 e2 =>
      obtain ⟨key, v⟩ := q
      obtain ⟨e3, e4⟩ := e1
      have e3' : kv.1 = key := e3
      have ek : key = .inr x.1 := e3'.symm.trans h1.1
      have rr := rb.val (.inr x.1)
      unfold sdHits at h
      rcases sb.get (k := x.1) with ⟨g1, g2⟩ | ⟨u, t, g1, g2, g3⟩
      · rw [g2] at h
        rw [g1] at rr
        cases h
        refine .miss ?_
        rw [ek]
        cases hv : valueAt vb (.inr x.1) with
        | none => rfl
        | some z => rw [hv] at rr; exact absurd rr (by intro z; cases z)
      · rw [g2] at h
        rw [g1] at rr
        obtain ⟨y, hy, ry⟩ := rr.some_of
        dsimp only at h
        by_cases hf : (thFlat x.2 && thFlat t) = true
        · rw [if_pos hf] at h
          obtain ⟨f1, f2⟩ := Bool.and_eq_true_iff.mp hf
          cases hs : sdHits ys xs with
          | none => rw [hs] at h; cases h
          | some b =>
            rw [hs] at h
            cases h
            refine .hit (by rw [ek]; exact hy) ?_ (ih e2 hs)
            rw [← th_eqv h1.2 g3 f1 f2]
            exact eqAt_V e4 ry (th_flat h1.2 f1) (th_flat g3 f2)
        · rw [if_neg hf] at h; cases h
def rSdq (K : PySem.W.Frag) (neg : Bool) : R2 := fun x y H Q => ∃ (F F' : Hp) (a b : Addr) (ks ls : List (Key × V)) (xs ys : List (Str × Th)) (r : Bool), x = .ref a ∧ y = .ref b ∧ H a = some (.dK ks) ∧ H b = some (.dK ls) ∧ SdRow K F ks xs ∧ SdRow K F' ls ys ∧ sdq xs ys = some r ∧ Q (.bl (if neg = true then !r else r)) H
theorem op_sdNe {X : Cx} (hu : X.A.units + 64 < cLine) : OpR X (compareOp .NotEq) (rSdq X.K true) := by
  intro pins s σ H x y v u Q I rx ry h
  obtain ⟨F, F', a, b, ks, ls, xs, ys, r, rfl, rfl, h1, h2, ra, rb, e, q⟩ := h
  cases rx; cases ry
  obtain ⟨_, ya, va, qa, da⟩ := (show ObjOk X.prog X.w H s.heap a (.dK ks) from I.hok a _ h1)
  obtain ⟨_, yb, vb, qb, db⟩ := (show ObjOk X.prog X.w H s.heap b (.dK ls) from I.hok b _ h2)
  unfold sdq at e
  cases hs : sdHits ys xs with
  | none => rw [hs] at e; cases e
  | some c =>
    rw [hs] at e
    cases e
    refine PySem.W.keq_ne (knd := mixKind X.prog X.w) ya yb da db (by omega) (fun _ => sd_hits qb rb qa ra hs) ⟨.bl _, H, I, rfl, ?_⟩
    rw [if_pos rfl] at q
    have l1 : va.length = xs.length := by rw [← qa.length, ra.len]
    have l2 : vb.length = ys.length := by rw [← qb.length, rb.len]
    rw [l1, l2]
    exact q
theorem rd_sdq {neg r : Bool} (S : Sx P F0 H0 F H) (a : qSd.r K F v xs) (b : qSd.r K F w ys) (h : sdq xs ys = some r) (q : Q (.bl (if neg = true then !r else r)) H) : rSdq K neg v w H Q := by
  obtain ⟨p, ks, rfl, h1, h2⟩ := a
  obtain ⟨p', ls, rfl, g1, g2⟩ := b
  exact ⟨F, F, p, p', ks, ls, xs, ys, r, rfl, rfl, S.sub _ _ h1, S.sub _ _ g1, h2, g2, h, q⟩
theorem rd_sdNe {r : Bool} (S : Sx P F0 H0 F H) (a : qSd.r K F v xs) (b : qSd.r K F w ys) (h : sdq xs ys = some r) (q : Q (.bl (!r)) H) : rSdq K true v w H Q := rd_sdq S a b h (by rw [if_pos rfl]; exact q)
end
section
variable {K : PySem.W.Frag} {P : Addr → Prop} {F0 H0 F H : Hp} {v w : V} {p q : Addr} {us ws zs : List V} {Q : VK}
theorem rd_catRO (S : Sx P F0 H0 F H) (e1 : v = .ref p) (h1 : F p = some (.lst us)) (e2 : w = .ref q) (h2 : F q = some (.lst ws)) (e : us ++ ws = zs) (l : Nat.ble (us.length + ws.length) 1000 = true) (k : nK Q H (.lst zs)) : rCat v w H Q := by
  subst e
  exact ⟨p, q, us, ws, e1, e2, S.sub _ _ h1, S.sub _ _ h2, Nat.le_trans (Nat.le_of_ble_eq_true l) (by decide +kernel), k⟩
theorem rd_ixAt {i : Int} {j : Nat} (e : i = j) (k : rIxL K v (.int (j : Int)) H Q) : rIxL K v (.int i) H Q := by rw [e]; exact k
end
section
variable {X : Cx} {CX : CXT} {k : Nat} {C m q : Str} {st : Stmt} {sp : Sp} {E : XK} {o : Expr} {pos apos : Pos} {ta : TE} {pl : Sem Bool}
theorem pe_smN {K : PySem.W.Frag} (he : PE X o ta) (c : Sm K C m q st) (F : FnR X.prog X.w K X.mg X.base CX k (sgA K C m) sp) (hr : Room k X.A) (hx : Passes CX X E) (hK : X.K = K := by rfl)
    (ht : eval (.Call (.Attribute o m apos) [] [] pos) X.env = (do
      let ov ← eval o X.env
      standAt apos.atName
      let (f, first) ← holding [ov] (getMethod ov m pl)
      callWith pos f first (backTo pos (starEach [] X.env)) (backToKw pos (keywordEach [] X.env))) := by rfl) :
    PE X (.Call (.Attribute o m apos) [] [] pos) (tSm (He.ga K C) sp E ta tNil) := by
  subst hK
  refine ⟨fun pins s σ H Q I h => ?_⟩
  refine PySem.W.methodCall_KW (pl := pl) (thn (he.run pins s σ H _ I h) fun u s1 ⟨x, H1, I1, rx, ex, q⟩ => ?_) ht
  subst ex
  obtain rfl : u = Value.ref (He.ga X.K C) := rx
  refine getm_sm I1 c fun s2 I2 => ?_
  exact PySem.W.callWith_K0 I2.kIn c.kp (wpAny_call (run_fnR (us := []) F hr hx I2 .nil q))
end
structure OwnNe (K : PySem.W.Frag) (C : Addr) : Prop where
  ne : PySem.W.findIn K (.ref C) "__ne__" = some (some (.builtin "object.__ne__"))
  mro : PySem.W.mroIn K C (.type "object") = some true
def rNeO (K : PySem.W.Frag) (f : Addr) (sp : Sp) (E : XK) : R2 := fun x y H Q => ∃ a C dx fs, x = .ref a ∧ H a = some (.ins C dx fs) ∧ OwnEq K C f ∧ OwnNe K C ∧ RightOk K H C y ∧ sp [x, y] H (fun r H' => ∃ b, r = .bl b ∧ Q (.bl (!b)) H') E
end Gl
namespace Gl
open PySem PySem.W PySem.Calls PyProof.Rows
section
variable {M : Model} {prog : Program} {w : World} {A : Around} {E : Value → Shared → Prop} {s : Shared} {K : Frag} {x C f : Addr} {ox : Obj} {od : Option Obj} {b tb : Value}
theorem ifBound_objNe {args : List Value} {Q : Option Value → Shared → Prop} (X : K.In s.heap) (I : InstAt s.heap x ox C od) (hs : findIn K (.ref C) "__ne__" = some (some (.builtin "object.__ne__")))
    (h : wpAny M A (call (.builtin "object.__ne__") (.ref x :: args)) (fun v => Q (some v)) E s) : wpAny M A (callSpecialIfBound? (.ref x) "__ne__" args) Q E s := by
  simp only [callSpecialIfBound?, bindSpecialIfBound?]
  refine wpAny_holding (wpAny_bind (wpAny_bind (wpAny_bind (I.type.here ((looks_findIn X hs).here ?_)))))
  refine wpAny_bind (wpAny_askSetting (wpAny_ite ?_))
  have fin : wpAny M A (call (.builtin "object.__ne__") ([.ref x] ++ args) >>= fun v => pure (some v)) Q E s := wpAny_bind (wpAny_mono h (fun v s' h' => wpAny_pure h') fun _ _ h' => h')
  split
  · exact wpAny_bind (wpAny_of_eq (F.cmp_object.ne.bind _) (wpAny_pure (by exact fin)))
  · exact wpAny_tryCatch (wpAny_bind (wpAny_of_eq (F.cmp_object.ne.bind _) (wpAny_pure (by exact fin))))
theorem entry_ne {Q : Fin → Shared → Prop} (hu : A.units < cLine) (X : K.In s.heap) (I : InstAt s.heap x ox C od) (hs : findIn K (.ref C) "__eq__" = some (some (.ref f))) (hf : isFn K (.ref f) = true)
    (h : wpAny M A (call (.ref f) [.ref x, b]) (fun v s' => ∃ r, v = .bool r ∧ Q (.done (.ret (.bool (!r)))) s') E s) : wpAny M A (Builtin.«object.__ne__» ⟨[.ref x, b], []⟩) Q E s := by
  unfold Builtin.«object.__ne__»
  refine wpAny_bind ?_
  repeat (first | with_reducible refine wpAny_cRoomFor hu ?_ | with_reducible refine ifBound_K X I hs hf (wpAny_mono h (fun v s' hv => ?_) fun _ _ e => e) | wp_step)
  obtain ⟨r, rfl, q⟩ := hv
  refine wpAny_bind (wpAny_truthy_bool ?_)
  exact wpAny_pure q
theorem call_objNe {Q : Value → Shared → Prop} (hu : A.in1.units < cLine) (X : K.In s.heap) (I : InstAt s.heap x ox C od) (hm : mroIn K C (.type "object") = some true) (hs : findIn K (.ref C) "__eq__" = some (some (.ref f))) (hf : isFn K (.ref f) = true)
    (h : wpAny (model prog w) A.in1 (call (.ref f) [.ref x, b]) (fun v s' => ∃ r, v = .bool r ∧ Q (.bool (!r)) s') E s) :
    wpAny (model prog w) A (call (.builtin "object.__ne__") [.ref x, b]) Q E s :=
  wpAny_call (codeAny_call_builtin PySem.F.cmp_object.ne.plain PySem.F.cmpEntry_ne (PySem.W.check_slot PySem.F.cmpKind_ne PySem.F.cmpSplit_ne (I.type.andThen (PySem.W.looks_mroIn X hm)) (PySem.F.cmpArgs_ne _ _) (entry_ne hu X I hs hf h)))
theorem cmp_ne {Q : Value → Shared → Prop} (hu : A.units < cLine) (hu1 : A.in1.units < cLine) (X : K.In s.heap) (I : InstAt s.heap x ox C od) (hb : Looks (model prog w) s.heap (typeOf b) tb) (hn : notFirst K C tb = true)
    (hne : findIn K (.ref C) "__ne__" = some (some (.builtin "object.__ne__"))) (hm : mroIn K C (.type "object") = some true) (hs : findIn K (.ref C) "__eq__" = some (some (.ref f))) (hf : isFn K (.ref f) = true)
    (h : wpAny (model prog w) A.in1 (call (.ref f) [.ref x, b]) (fun v s' => ∃ r, v = .bool r ∧ Q (.bool (!r)) s') E s) : wpAny (model prog w) A (richCompare .NotEq (.ref x) b) Q E s := by
  have one : wpAny (model prog w) A (tryCompare (.ref x) "__ne__" b) (fun r s' => ∃ v, r = some v ∧ Q v s') E s := by
    unfold tryCompare
    refine wpAny_bind (ifBound_objNe X I hne (call_objNe hu1 X I hm hs hf (wpAny_mono h (fun v s' hv => ?_) fun _ _ e => e)))
    obtain ⟨r, rfl, q⟩ := hv
    exact ⟨r, rfl, wpAny_pure ⟨_, rfl, q⟩⟩
  unfold richCompare
  simp only [oneThing_ref]
  refine wpAny_holding (wpAny_bind (wpAny_cRoomFor hu ?_))
  refine wpAny_bind (I.type.here (wpAny_bind (hb.here ?_)))
  split
  · rename_i q
    have e : subIn K tb (.ref C) = some false := by
      rcases Bool.or_eq_true_iff.mp hn with e | e
      · rw [beq_iff_eq.mp e] at q; simp at q
      · exact beq_iff_eq.mp e
    refine wpAny_bind ((looks_subIn X e).here ?_)
    simp only [Bool.false_eq_true, if_false]
    refine wpAny_bind (wpAny_mono one (fun r s' z => ?_) fun _ _ e => e)
    obtain ⟨v, rfl, hq⟩ := z
    exact wpAny_pure hq
  · refine wpAny_bind (wpAny_pure ?_)
    simp only [Bool.false_eq_true, if_false]
    refine wpAny_bind (wpAny_mono one (fun r s' z => ?_) fun _ _ e => e)
    obtain ⟨v, rfl, hq⟩ := z
    exact wpAny_pure hq
end
end Gl
namespace Gl
open PySem PySem.Spec PyProof.Rows L2
section
variable {X : Cx} {CX : CXT} {k : Nat} {f : Addr} {fd : FuncData} {ps : List Str} {sp : Sp} {E : XK}
theorem op_neO (F : FnOk X.prog X.w X.K X.mg X.base CX k f fd ps sp) (hr : Room (k + 1) X.A) (hb : Binds X.K fd ps []) (hx : Passes CX X E) : OpR X (compareOp .NotEq) (rNeO X.K f sp E) := by
  intro pins s σ H x y v u Q I rx ry h
  obtain ⟨a, C, dx, fs, rfl, e1, o, n, ro, h⟩ := h
  cases rx
  obtain ⟨ox, od, J, _⟩ := StX.insC_at I (.inr ⟨dx, fs, e1⟩)
  have back : wpAny (model X.prog X.w) X.A.in1 (call (.ref f) [.ref a, u]) (fun v s' => ∃ r, v = .bool r ∧ EP X pins σ Q (.bool (!r)) s') X.xe s := by
    have e0 : Env0 X.prog X.w X.K X.mg X.base X.A.in1 X.stack s H := by
      have e := I.env0
      exact ⟨e.frames, e.mod, e.bs, e.bsz, e.funs, e.frf, e.hok, e.bare⟩
    have hl := F.len _ _ _ _ h
    have r2 : Vals [V.ref a, y] [Value.ref a, u] := .cons rfl (.cons ry .nil)
    refine wpAny_call (codeAny_mono (F.run X.A.in1 X.stack s H ⟨[.ref a, u], []⟩ [.ref a, u] [.ref a, y] _ E hr.in1 e0 (by
      have := hb s [.ref a, u] I.kIn (by simpa using hl)
      simpa using this) r2 h) fun r s' hq => ?_)
    cases r with
    | error e => exact hx pins σ H s e s' I hq
    | ok fl =>
      cases fl with
      | ret w =>
        obtain ⟨z, H', I', rz, b, ez, q⟩ := I.after hq
        subst ez
        cases rz
        exact ⟨b, rfl, .bl _, H', I', rfl, q⟩
      | next => exact False.elim hq
      | brk => exact False.elim hq
      | cont => exact False.elim hq
  have hu : X.A.units < cLine := hr.units0
  have hu1 : X.A.in1.units < cLine := hr.in1.units0
  show wpAny _ _ (richCompare .NotEq (.ref a) u) _ _ s
  cases ro with
  | @ins b D dy gs e2 nf =>
    obtain rfl : u = Value.ref b := ry
    obtain ⟨oy, oe, J2, _⟩ := StX.insC_at I (.inr ⟨dy, gs, e2⟩)
    exact cmp_ne hu hu1 I.kIn J J2.type nf n.ne n.mro o.at_ o.fn back
  | str z nf =>
    obtain ⟨t, rfl⟩ := ry
    exact cmp_ne hu hu1 I.kIn J (PySem.W.Looks.of_pure rfl) nf n.ne n.mro o.at_ o.fn back
end
structure OwnE (K : PySem.W.Frag) (C : Str) : Prop where
  eq : OwnEq K (He.ga K C) (He.fAd K (C, some "__eq__"))
  ne : OwnNe K (He.ga K C)
  ni : PySem.W.notFirst K (He.ga K C) (.type "int") = true
  np : ∀ y, isPatC y → PySem.W.notFirst K (He.ga K C) (.ref (He.ga K y)) = true
  isa : PySem.W.kitOne K (.ref (He.ga K C)) (.ref (He.ga K C)) = some true
  isi : PySem.W.kitOne K (.type "int") (.ref (He.ga K C)) = some false
  isp : ∀ y, isPatC y → PySem.W.kitOne K (.ref (He.ga K y)) (.ref (He.ga K C)) = some false
  ins : InsF K (He.ga K C)
def ownEB (K : PySem.W.Frag) (C : Str) : Bool := decide (PySem.W.findIn K (.ref (He.ga K C)) "__eq__" = some (some (.ref (He.fAd K (C, some "__eq__"))))) && (PySem.W.isFn K (.ref (He.fAd K (C, some "__eq__"))) && (decide (PySem.W.findIn K (.ref (He.ga K C)) "__ne__" = some (some (.builtin "object.__ne__"))) &&
  (decide (PySem.W.mroIn K (He.ga K C) (.type "object") = some true) && (PySem.W.notFirst K (He.ga K C) (.type "int") && (isaB K C C true && (decide (PySem.W.kitOne K (.type "int") (.ref (He.ga K C)) = some false) && (insB K (He.ga K C) && patCs.all fun y => PySem.W.notFirst K (He.ga K C) (.ref (He.ga K y)) && isaB K y C false)))))))
theorem ownEB_ok {K : PySem.W.Frag} {C : Str} (h : ownEB K C = true) : OwnE K C := by
  unfold ownEB at h
  obtain ⟨h1, h⟩ := He.ba h
  obtain ⟨h2, h⟩ := He.ba h
  obtain ⟨h3, h⟩ := He.ba h
  obtain ⟨h4, h⟩ := He.ba h
  obtain ⟨h5, h⟩ := He.ba h
  obtain ⟨h6, h⟩ := He.ba h
  obtain ⟨h7, h⟩ := He.ba h
  obtain ⟨h9, h8⟩ := He.ba h
  exact ⟨⟨of_decide_eq_true h1, h2⟩, ⟨of_decide_eq_true h3, of_decide_eq_true h4⟩, h5, fun y hy => (He.ba (List.all_eq_true.mp h8 y (patCs_mem hy))).1, isaB_ok h6, of_decide_eq_true h7, fun y hy => isaB_ok (He.ba (List.all_eq_true.mp h8 y (patCs_mem hy))).2, insB_ok h9⟩
def rEqOI (K : PySem.W.Frag) (f : Addr) (sp : Sp) (E : XK) : R2 := fun x y H Q => ∃ a C dx fs i, x = .ref a ∧ H a = some (.ins C dx fs) ∧ OwnEq K C f ∧ y = .int i ∧ PySem.W.notFirst K C (.type "int") = true ∧ sp [x, y] H Q E
section
variable {X : Cx} {CX : CXT} {k : Nat} {f : Addr} {fd : FuncData} {ps : List Str} {sp : Sp} {E : XK}
theorem op_eqOI (F : FnOk X.prog X.w X.K X.mg X.base CX k f fd ps sp) (hr : Room k X.A) (hb : Binds X.K fd ps []) (hx : Passes CX X E) : OpR X (compareOp .Eq) (rEqOI X.K f sp E) := by
  intro pins s σ H x y v u Q I rx ry h
  obtain ⟨a, C, dx, fs, i, rfl, e1, o, rfl, nf, h⟩ := h
  cases rx
  obtain ⟨ox, od, J, _⟩ := StX.insC_at I (.inr ⟨dx, fs, e1⟩)
  have r := run_fn (X := X) (us := [.ref a, u]) (vs := [.ref a, .int i]) (dvs := []) (ds := []) F hr hb .nil hx I (.cons rfl (.cons ry .nil)) (Q := Q) h
  have back : wpAny (model X.prog X.w) X.A (call (.ref f) [.ref a, u]) (PySem.W.CmpBack (EP X pins σ Q)) X.xe s := by
    refine wpAny_mono r (fun z s' hz => ?_) fun _ _ z => z
    obtain ⟨w', H', I', rw', q⟩ := id hz
    cases z with
    | notImplemented => cases w' <;> first | (obtain ⟨t, ht⟩ := rw'; cases ht; done) | (cases rw'; done) | exact absurd rw' (fun z => nomatch z)
    | _ => exact hz
  have hu : X.A.units < cLine := hr.units0
  obtain ⟨t, rfl⟩ := ry
  show wpAny _ _ (richCompare .Eq (.ref a) (.int i t)) _ _ s
  exact cmp_own hu I.kIn J (PySem.W.Looks.of_pure rfl) nf o.at_ o.fn back
end
def neK (Q : VK) : VK := fun r H => ∃ b, r = .bl b ∧ Q (.bl (!b)) H
section
variable {K : PySem.W.Frag} {P : Addr → Prop} {F0 H0 F H : Hp} {w : V} {Q : VK} {E : XK} {sp : Sp} {C : Str} {p q dx dy : Addr} {fs gs : List (Str × V)} {b : Pat}
theorem oe_eq (U : OwnE K C) (h1 : H p = some (.ins (He.ga K C) dx fs)) (h2 : H q = some (.ins (He.ga K C) dy gs)) (k : sp [.ref p, .ref q] H Q E) : rEqO K (He.fAd K (C, some "__eq__")) sp E (.ref p) (.ref q) H Q :=
  ⟨p, _, dx, fs, rfl, h1, U.eq, .ins h2 (by simp [PySem.W.notFirst]), k⟩
theorem oe_ne (U : OwnE K C) (h1 : H p = some (.ins (He.ga K C) dx fs)) (h2 : H q = some (.ins (He.ga K C) dy gs)) (k : sp [.ref p, .ref q] H (neK Q) E) : rNeO K (He.fAd K (C, some "__eq__")) sp E (.ref p) (.ref q) H Q :=
  ⟨p, _, dx, fs, rfl, h1, U.eq, U.ne, .ins h2 (by simp [PySem.W.notFirst]), k⟩
theorem oe_int {i : Int} (U : OwnE K C) (h1 : H p = some (.ins (He.ga K C) dx fs)) (k : sp [.ref p, .int i] H Q E) : rEqOI K (He.fAd K (C, some "__eq__")) sp E (.ref p) (.int i) H Q :=
  ⟨p, _, dx, fs, i, rfl, h1, U.eq, rfl, U.ni, k⟩
theorem oe_pat (U : OwnE K C) (h1 : H p = some (.ins (He.ga K C) dx fs)) (S : Sx P F0 H0 F H) (r : qPat.r K F w b) (k : sp [.ref p, w] H Q E) : rEqO K (He.fAd K (C, some "__eq__")) sp E (.ref p) w H Q := by
  obtain ⟨q, dy, gs, rfl, h5, h6⟩ := qPat_ins r S.sub
  exact ⟨p, _, dx, fs, rfl, h1, U.eq, .ins h5 (U.np b.cls b.isC), k⟩
theorem rd_neK {c : Bool} (k : Q (.bl (!c)) H) : neK Q (.bl c) H := ⟨c, rfl, k⟩
theorem rd_isOwn (T : Cls K (He.ga K C)) (U : OwnE K C) (h1 : H p = some (.ins (He.ga K C) dx fs)) (k : Q (.bl true) H) : rIsi K [.ref p, .ref (He.ga K C)] H Q := by
  obtain ⟨i1, i2, i3, i4⟩ := U.ins
  exact ⟨.ref p, _, _, _, true, rfl, .own _, .base (.ins h1 T i1 i2 i3 i4), U.isa, k⟩
theorem rd_isOwnI {i : Int} (U : OwnE K C) (k : Q (.bl false) H) : rIsi K [.int i, .ref (He.ga K C)] H Q :=
  ⟨.int i, _, _, _, false, rfl, .own _, tx_int, U.isi, k⟩
theorem rd_isOwnP (T : PatF K) (U : OwnE K C) (S : Sx P F0 H0 F H) (r : qPat.r K F w b) (k : Q (.bl false) H) : rIsi K [w, .ref (He.ga K C)] H Q :=
  ⟨w, _, _, _, false, rfl, .own _, tx_pat T S r, U.isp b.cls b.isC, k⟩
end
def tSmS (C : Addr) (sp : Sp) (E : L2.St → XK) (ta : TE) (t : TA) : TE := fun σ H Q => ta σ H fun x H1 => x = .ref C ∧ t σ H1 fun vs H2 => sp vs H2 Q (E σ)
section
variable {X : Cx} {CXt : CXT} {k : Nat} {C m q : Str} {st : Stmt} {sp : Sp} {E : L2.St → XK} {o e : Expr} {es : List Expr} {pos apos : Pos} {ta : TE} {t : TA} {pl : Sem Bool}
theorem pe_smKS {K : PySem.W.Frag} (he : PE X o ta) (c : Sm K C m q st) (F : FnR X.prog X.w K X.mg X.base CXt k (sgA K C m) sp) (hr : Room k X.A) (hx : ∀ σ, PassesAt CXt X σ (E σ)) (ha : PA X (e :: es) t) (hK : X.K = K := by rfl)
    (hst : starEach (e :: es) X.env = (false, eval e X.env) :: starEach es X.env := by rfl) (hpl : (backTo pos (starEach es X.env)).any (·.1) = false := by rfl)
    (ht : eval (.Call (.Attribute o m apos) (e :: es) [] pos) X.env = (do
      let ov ← eval o X.env
      standAt apos.atName
      let (f, first) ← holding [ov] (getMethod ov m pl)
      callWith pos f first (backTo pos (starEach (e :: es) X.env)) (backToKw pos (keywordEach [] X.env))) := by rfl) :
    PE X (.Call (.Attribute o m apos) (e :: es) [] pos) (tSmS (He.ga K C) sp E ta t) := by
  subst hK
  refine ⟨fun pins s σ H Q I h => ?_⟩
  refine PySem.W.methodCall_KW (pl := pl) (thn (he.run pins s σ H _ I h) fun u s1 ⟨x, H1, I1, rx, ex, q⟩ => ?_) ht
  subst ex
  obtain rfl : u = Value.ref (He.ga X.K C) := rx
  refine getm_sm I1 c fun s2 I2 => ?_
  refine PySem.W.callWith_K (h₀ := X.base) I.ok.mod.kin c.kp (thn (ha.run pos pins s2 σ H1 _ I2 q) fun us s3 ⟨vs, H2, I3, r, q2⟩ => ⟨I3.kIn, ?_⟩) hst hpl
  refine wpAny_call (codeAny_mono (F X.A X.stack s3 H2 us vs Q (E σ) hr I3.env0 r q2) ?_)
  intro rs s' h'
  rcases rs with e' | (u | _ | _ | _)
  · exact hx σ pins _ _ e' s' I3 h'
  all_goals first | exact False.elim h' | exact I3.after h'
end
section
variable {σ : L2.St} {H : Hp}
theorem rd_smS {C : Addr} {sp : Sp} {E : L2.St → XK} {ta : TE} {t : TA} {Q : VK} (k : ta σ H fun x H1 => x = .ref C ∧ t σ H1 fun vs H2 => sp vs H2 Q (E σ)) : tSmS C sp E ta t σ H Q := k
end
def rNeNil (K : PySem.W.Frag) : R2 := fun x y H Q => ∃ p q xs, x = .ref p ∧ y = .ref q ∧ SqL K H p xs ∧ SqL K H q [] ∧ Q (.bl (!xs.isEmpty)) H
theorem op_neNil {X : Cx} (hu : X.A.units < cLine) : OpR X (compareOp .NotEq) (rNeNil X.K) := by
  intro pins s σ H x y v u Q I rx ry h
  obtain ⟨p, q, xs, rfl, rfl, h1, h2, k⟩ := h
  cases rx; cases ry
  obtain ⟨its, r1, pl1, z1⟩ := I.list h1
  obtain ⟨js, r2, pl2, z2⟩ := I.list h2
  have ej : js = [] := by cases r2; rfl
  subst ej
  show wpAny _ _ (richCompare .NotEq (.ref p) (.ref q)) _ _ s
  cases r1 with
  | nil => exact SeqAt.RcNeAt.lists (e := fun _ => true) pl1.isList pl2.isList rfl hu (fun j h1 _ => absurd h1 (Nat.not_lt_zero _)) _ _ _ _ ⟨.bl _, H, I, rfl, k⟩
  | cons a b => exact SeqAt.RcNeAt.lists_lengths pl1.isList pl2.isList (by rw [List.size_toArray, List.size_toArray, List.length_cons]; rfl) hu _ _ _ _ ⟨.bl _, H, I, rfl, k⟩
theorem rd_neNil {α β : Type} {A : R α} {B : R β} {K : PySem.W.Frag} {F H : Hp} {v w : V} {xs : List α} {Q : VK} (s : SeenR A K F H v xs) (t : SeenR B K F H w ([] : List β)) (k : Q (.bl (!xs.isEmpty)) H) : rNeNil K v w H Q := by
  obtain ⟨p, vs, rfl, h1, r1⟩ := s
  obtain ⟨q, ws, rfl, h2, r2⟩ := t
  have e : ws = [] := by cases r2; rfl
  subst e
  refine ⟨p, q, vs, rfl, rfl, h1, h2, ?_⟩
  have : vs.isEmpty = xs.isEmpty := by cases r1 <;> rfl
  rw [this]; exact k
end Gl
namespace Gl
open PySem PySem.Spec PyProof.Rows L2
def Ok {α : Type} (x : Option α) (Q : α → Prop) : Prop := ∃ a, x = some a ∧ Q a
section
variable {α β S ρ : Type} {x y : Option α} {P Q : α → Prop} {f : α → Option β} {R : β → Prop} {a : α} {b : Bool}
theorem Ok.sm (h : Q a) : Ok (some a) Q := ⟨a, rfl, h⟩
theorem Ok.bd (h : Ok x P) (k : ∀ a, P a → Ok (f a) R) : Ok (x.bind f) R := by
  obtain ⟨a, rfl, p⟩ := h
  exact k a p
theorem Ok.bde (h : x = some a) (k : Ok (f a) R) : Ok (x.bind f) R := by
  rw [h]; exact k
theorem Ok.gd (h : b = true) (k : Ok x Q) : Ok (gd b x) Q := by rw [gd_true h]; exact k
theorem Ok.ite (h1 : b = true → Ok x Q) (h2 : b = false → Ok y Q) : Ok (if b = true then x else y) Q := by
  cases b with
  | true => exact h1 rfl
  | false => exact h2 rfl
theorem Ok.mono (h : Ok x P) (k : ∀ a, P a → Q a) : Ok x Q := let ⟨a, e, p⟩ := h; ⟨a, e, k a p⟩
theorem Ok.eq {a : α} (h : Ok x fun r => r = a) : x = some a := let ⟨b, e, p⟩ := h; p ▸ e
theorem Ok.of (h : x = some a) (k : Q a) : Ok x Q := ⟨a, h, k⟩
theorem Ok.loop {f : α → S → Option S} {xs : List α} {s0 : S} (I : List α → S → Prop) (h0 : I [] s0) (hs : ∀ pre x post s, xs = pre ++ x :: post → I pre s → Ok (f x s) (I (pre ++ [x]))) : Ok (loopS f xs s0) (I xs) := by
  have key : ∀ (post pre : List α) (s : S), xs = pre ++ post → I pre s → Ok (loopS f post s) (I xs) := by
    intro post
    induction post with
    | nil => intro pre s e h; rw [List.append_nil] at e; subst e; exact ⟨s, rfl, h⟩
    | cons x post ih =>
      intro pre s e h
      obtain ⟨s', e1, h1⟩ := hs pre x post s e h
      obtain ⟨r, e2, h2⟩ := ih (pre ++ [x]) s' (by rw [e]; simp) h1
      exact ⟨r, by show (f x s).bind _ = _; rw [e1]; exact e2, h2⟩
  exact key xs [] s0 rfl h0
theorem Ok.loopN {f : α → S → Option (Ctl S ρ)} {xs : List α} {s0 : S} (I : List α → S → Prop) (h0 : I [] s0) (hs : ∀ pre x post s, xs = pre ++ x :: post → I pre s → Ok (f x s) fun c => ∃ s', c = .nx s' ∧ I (pre ++ [x]) s') : Ok (loopC f xs s0) fun c => ∃ s', c = .nx s' ∧ I xs s' := by
  have key : ∀ (post pre : List α) (s : S), xs = pre ++ post → I pre s → Ok (loopC f post s) fun c => ∃ s', c = .nx s' ∧ I xs s' := by
    intro post
    induction post with
    | nil => intro pre s e h; rw [List.append_nil] at e; subst e; exact ⟨_, rfl, s, rfl, h⟩
    | cons x post ih =>
      intro pre s e h
      obtain ⟨_, e1, s', rfl, h1⟩ := hs pre x post s e h
      obtain ⟨r, e2, h2⟩ := ih (pre ++ [x]) s' (by rw [e]; simp) h1
      exact ⟨r, by show (f x s).bind _ = _; rw [e1]; exact e2, h2⟩
  exact key xs [] s0 rfl h0
theorem comp_pure {f : α → Unit → Option (Option β × Unit)} {g : α → Option β} : ∀ {xs : List α}, (∀ x ∈ xs, f x () = some (g x, ())) → comp f xs () = some (xs.filterMap g, ())
  | [], _ => rfl
  | x :: xs, h => by
    show (f x ()).bind _ = _
    rw [h x List.mem_cons_self]
    show ((comp f xs ()).bind fun r => some (match g x with
      | some y => (y :: r.1, r.2)
      | none => r)) = _
    rw [comp_pure fun y hy => h y (List.mem_cons_of_mem _ hy), List.filterMap_cons]
    cases g x <;> rfl
end
theorem filterMap_ite {α : Type} {p : α → Bool} : ∀ xs : List α, xs.filterMap (fun x => if p x = true then some x else none) = xs.filter p
  | [] => rfl
  | x :: xs => by
    rw [List.filterMap_cons, List.filter_cons, filterMap_ite xs]
    cases p x <;> rfl
def cl (s : Str) : List Nat := s.cps.toList
theorem cl_inj {a b : Str} (h : cl a = cl b) : a = b := by
  obtain ⟨a⟩ := a; obtain ⟨b⟩ := b
  exact congrArg Str.mk (Array.toList_inj.mp h)
theorem cl_len (s : Str) : s.length = (cl s).length := (Array.length_toList).symm
theorem cl_app (a b : Str) : cl (a ++ b) = cl a ++ cl b := Array.toList_append
theorem cl_sg (c : Nat) : cl ⟨#[c]⟩ = [c] := rfl
theorem sgns_cl (s : Str) : sgns s = (cl s).map fun c => ⟨#[c]⟩ := rfl
theorem cl_cut (z : Str) (lo hi : Option Int) : cl (cutS z lo hi) = cut (cl z) lo hi := by
  unfold cl cutS cut
  rw [List.toList_toArray]
  show _ = List.take (HT.sIx z.cps.toList.length z.cps.toList.length hi - HT.sIx z.cps.toList.length 0 lo) (List.drop (HT.sIx z.cps.toList.length 0 lo) z.cps.toList)
  rw [Array.length_toList]
  rfl
theorem sIx_nn {n d : Nat} {k : Int} (h : 0 ≤ k) : HT.sIx n d (some k) = min k.toNat n := by
  obtain ⟨m, rfl⟩ := Int.eq_ofNat_of_zero_le h
  rw [HT.sIx_nat]; rfl
theorem cut_to {α : Type} (xs : List α) {k : Int} (h : 0 ≤ k) : cut xs none (some k) = xs.take k.toNat := by
  unfold cut
  rw [HT.sIx_none, sIx_nn h, List.drop_zero, Nat.sub_zero]
  rcases Nat.le_total k.toNat xs.length with e | e
  · rw [Nat.min_eq_left e]
  · rw [Nat.min_eq_right e, List.take_of_length_le (Nat.le_refl _), List.take_of_length_le e]
theorem cut_from {α : Type} (xs : List α) {k : Int} (h : 0 ≤ k) : cut xs (some k) none = xs.drop k.toNat := by
  unfold cut
  rw [HT.sIx_none, sIx_nn h]
  rcases Nat.le_total k.toNat xs.length with e | e
  · rw [Nat.min_eq_left e, List.take_of_length_le]; rw [List.length_drop]; omega
  · rw [Nat.min_eq_right e, Nat.sub_self, List.take_zero, List.drop_of_length_le e]
theorem cut_mid {α : Type} (xs : List α) {a b : Int} (h : 0 ≤ a) (h2 : a ≤ b) : cut xs (some a) (some b) = (xs.drop a.toNat).take (b.toNat - a.toNat) := by
  unfold cut
  rw [sIx_nn h, sIx_nn (by omega)]
  rcases Nat.le_total a.toNat xs.length with e | e
  · rw [Nat.min_eq_left e]
    rcases Nat.le_total b.toNat xs.length with e2 | e2
    · rw [Nat.min_eq_left e2]
    · rw [Nat.min_eq_right e2, List.take_of_length_le (by rw [List.length_drop]; omega), List.take_of_length_le (by rw [List.length_drop]; omega)]
  · rw [Nat.min_eq_right e, List.drop_of_length_le e, List.drop_of_length_le (Nat.le_refl _)]; simp
theorem atI_nn {α : Type} {xs : List α} {i : Int} (h : 0 ≤ i) (h2 : i < xs.length) : atI xs i = xs[i.toNat]? := by
  unfold atI ixN
  rw [if_pos h, if_pos h2]; rfl
theorem atI_last {α : Type} {xs : List α} {a : α} : atI (xs ++ [a]) (-1) = some a := by
  unfold atI ixN
  rw [if_neg (by decide), if_pos (by simp; omega)]
  show (xs ++ [a])[((-1 : Int) + ((xs ++ [a]).length : Nat)).toNat]? = _
  have e : ((-1 : Int) + ((xs ++ [a]).length : Nat)).toNat = xs.length := by simp; omega
  rw [e]; simp
theorem ixS_ok {s : Str} {i : Int} (h : 0 ≤ i) (h2 : i < s.length) (h3 : s.length ≤ sizeLine) : Ok (ixS s i) fun z => ∃ c, (cl s)[i.toNat]? = some c ∧ z = ⟨#[c]⟩ := by
  unfold ixS
  refine Ok.gd (by unfold fitsS; exact decide_eq_true h3) ?_
  rw [atI_nn h (by rw [Array.length_toList]; exact h2)]
  have hl : i.toNat < (cl s).length := by rw [← cl_len]; omega
  refine Ok.bde (a := (cl s)[i.toNat]) (by show (cl s)[i.toNat]? = _; simp [hl]) ?_
  exact Ok.sm ⟨_, by simp [hl], rfl⟩
theorem sizeLine_big : (16000000 : Nat) ≤ sizeLine := by rw [sizeLine_eq]; decide
theorem fitsS_ok {s : Str} (h : s.length ≤ 16000000) : fitsS s = true := decide_eq_true (Nat.le_trans h sizeLine_big)
theorem fits_ok {α : Type} {s : List α} (h : s.length < 16000000) : fits s = true := decide_eq_true (Nat.lt_of_lt_of_le h sizeLine_big)
theorem fitsE_ok {α : Type} {s : List α} (h : s.length ≤ 16000000) : fitsE s = true := decide_eq_true (Nat.le_trans h sizeLine_big)
theorem fits2_ok {α : Type} {s t : List α} (h : s.length + t.length ≤ 16000000) : fits2 s t = true := decide_eq_true (Nat.le_trans h sizeLine_big)
theorem catOk_ok {s t : Str} (h : s.length + t.length ≤ 16000000) : catOk s t = true := decide_eq_true (Nat.le_trans h sizeLine_big)
theorem rgOk_ok {a b : Int} (h : -16000000 ≤ a) (h2 : a ≤ 16000000) (h3 : -16000000 ≤ b) (h4 : b ≤ 16000000) : rgOk a b = true := by
  unfold rgOk
  rw [decide_eq_true (show -(2 ^ 62) ≤ a by omega), decide_eq_true (show a < 2 ^ 62 by omega), decide_eq_true (show -(2 ^ 62) ≤ b by omega), decide_eq_true (show b < 2 ^ 62 by omega)]; rfl
theorem rgFit_ok {a b : Int} (h : -5000000 ≤ a) (h2 : a ≤ 5000000) (h3 : -5000000 ≤ b) (h4 : b ≤ 5000000) : rgFit a b = true := by
  unfold rgFit
  rw [decide_eq_true (show -(2 ^ 62) ≤ a by omega), decide_eq_true (show a < 2 ^ 62 by omega), decide_eq_true (show -(2 ^ 62) ≤ b by omega), decide_eq_true (show b < 2 ^ 62 by omega), decide_eq_true (show (b - a).toNat ≤ 16000000 by omega)]; rfl
theorem mulOk_l {a b : Int} (h : -(2 ^ 64) < a) (h2 : a < 2 ^ 64) : mulOk a b = true := by
  unfold mulOk; rw [decide_eq_true h, decide_eq_true h2]; rfl
theorem mulOk_r {a b : Int} (h : -(2 ^ 64) < b) (h2 : b < 2 ^ 64) : mulOk a b = true := by
  unfold mulOk; rw [decide_eq_true h, decide_eq_true h2]; simp
theorem modOk_ok {a : Int} (h : 0 < a) : modOk a = true := decide_eq_true h
theorem divOk_ok {a : Int} (h : 0 < a) (h2 : a < 1073741824) : divOk a = true := by
  unfold divOk; rw [decide_eq_true h, decide_eq_true h2]; rfl
theorem repS_cl {x : Str} {n : Int} (h : 0 ≤ n) : cl (repS x n) = (List.replicate n.toNat (cl x)).flatten := by
  have fold : ∀ (k : Nat) (acc : Array Nat), ((List.replicate k x.cps).foldl (· ++ ·) acc).toList = acc.toList ++ (List.replicate k x.cps.toList).flatten := by
    intro k
    induction k with
    | zero => intro acc; simp
    | succ k ih => intro acc; rw [List.replicate_succ, List.foldl_cons, ih, List.replicate_succ, List.flatten_cons, Array.toList_append, List.append_assoc]
  unfold repS Txt.mul
  by_cases h1 : n < 1
  · rw [if_pos h1]
    have e : n.toNat = 0 := by omega
    rw [e]; rfl
  · rw [if_neg h1]
    by_cases h2 : (n == 1 || x.length == 0) = true
    · rw [if_pos h2]
      rcases Bool.or_eq_true_iff.mp h2 with h3 | h3
      · have e : n = 1 := by simpa using h3
        subst e
        show cl x = _
        simp
      · have e : x.length = 0 := by simpa using h3
        rw [cl_len] at e
        have e2 : cl x = [] := List.eq_nil_of_length_eq_zero e
        rw [e2]
        symm
        rw [List.flatten_eq_nil_iff]
        intro l hl
        exact (List.mem_replicate.mp hl).2
    · rw [if_neg h2]
      show ((List.replicate n.toNat x.cps).foldl (· ++ ·) #[]).toList = _
      rw [fold]
      simp [cl]
theorem repOk_ok {x : Str} {n : Int} (h : 0 ≤ n) (h2 : n ≤ 100) (h3 : x.length ≤ 100) : repOk x n = true := by
  unfold repOk
  have e : x.length * n.toNat ≤ 100000 := Nat.le_trans (Nat.mul_le_mul h3 (show n.toNat ≤ 100 by omega)) (by decide)
  rw [decide_eq_true (show -(2 ^ 62) ≤ n by omega), decide_eq_true (show n < 2 ^ 62 by omega), decide_eq_true e, decide_eq_true (show x.length ≤ 100000 by omega)]; rfl
theorem rng_mem {a b i : Int} : i ∈ rng a b ↔ a ≤ i ∧ i < b := by
  unfold rng
  rw [List.mem_map]
  constructor
  · rintro ⟨j, hj, rfl⟩
    rw [List.mem_range] at hj
    omega
  · intro ⟨h1, h2⟩
    exact ⟨(i - a).toNat, by rw [List.mem_range]; omega, by omega⟩
theorem rng_len (a b : Int) : (rng a b).length = (b - a).toNat := by unfold rng; simp
theorem rng_at {a b : Int} {pre post : List Int} {x : Int} (h : rng a b = pre ++ x :: post) : x = a + pre.length ∧ pre = rng a x ∧ a ≤ x ∧ x < b := by
  have hx : x ∈ rng a b := by rw [h]; simp
  rw [rng_mem] at hx
  have hg : (rng a b)[pre.length]? = some x := by rw [h]; simp
  have hl : pre.length < (b - a).toNat := by
    have := congrArg List.length h
    rw [rng_len] at this
    simp at this
    omega
  have hx2 : x = a + pre.length := by
    unfold rng at hg
    rw [List.getElem?_map, List.getElem?_range hl] at hg
    exact (Option.some.inj hg).symm
  refine ⟨hx2, ?_, hx⟩
  have e : pre = (rng a b).take pre.length := by rw [h]; simp
  rw [e]
  unfold rng
  rw [← List.map_take, List.take_range]
  congr 2
  rw [hx2]; omega
theorem rng_snoc {a b : Int} (h : a ≤ b) : rng a (b + 1) = rng a b ++ [b] := by
  unfold rng
  have e : (b + 1 - a).toNat = (b - a).toNat + 1 := by omega
  rw [e, List.range_succ, List.map_append]
  congr 1
  show [a + ((b - a).toNat : Int)] = [b]
  congr 1
  omega
def okS (s : Str) : Prop := PyData.strOk s = true
theorem canAll {α : Type} {A : R α} (D : Dat A) : ∀ {xs : List α}, (∀ x ∈ xs, (D.d x).canLay0 = true) → PyData.canLayAll0 (xs.map D.d) = true
  | [], _ => rfl
  | x :: xs, h => by
    show ((D.d x).canLay0 && PyData.canLayAll0 (xs.map D.d)) = true
    rw [h x List.mem_cons_self, canAll D fun y hy => h y (List.mem_cons_of_mem _ hy)]; rfl
theorem depAll {α : Type} {A : R α} (D : Dat A) {n : Nat} : ∀ {xs : List α}, (∀ x ∈ xs, (D.d x).depth ≤ n) → PyData.depthAll (xs.map D.d) ≤ n
  | [], _ => Nat.zero_le _
  | x :: xs, h => by
    show max (D.d x).depth (PyData.depthAll (xs.map D.d)) ≤ n
    exact Nat.max_le.mpr ⟨h x List.mem_cons_self, depAll D fun y hy => h y (List.mem_cons_of_mem _ hy)⟩
theorem shp_of {α : Type} {A : R α} {D : Dat A} {a : α} (h : (D.d a).canLay0 = true) (h2 : (D.d a).depth ≤ 64) : shp D a = true := by
  show ((D.d a).canLay0 && decide ((D.d a).depth ≤ 64)) = true
  rw [h, decide_eq_true h2]; rfl
theorem shp_lS {xs : List Str} (h : ∀ x ∈ xs, okS x) : shp (dL dS) xs = true := shp_of (canAll dS h) (Nat.succ_le_of_lt (Nat.lt_of_le_of_lt (depAll dS (n := 0) fun _ _ => Nat.le_refl _) (by decide)))
theorem shp_lI (xs : List Int) : shp (dL dI) xs = true := shp_of (canAll dI fun _ _ => rfl) (Nat.succ_le_of_lt (Nat.lt_of_le_of_lt (depAll dI (n := 0) fun _ _ => Nat.le_refl _) (by decide)))
theorem loop_pick {α : Type} {f : α → List α → Option (List α)} {xs : List α} (p : α → Bool) (hs : ∀ pre x post, xs = pre ++ x :: post → f x (pre.filter p) = some (if p x = true then pre.filter p ++ [x] else pre.filter p)) : loopS f xs [] = some (xs.filter p) := by
  refine Ok.eq (Ok.loop (fun pre s => s = pre.filter p) rfl fun pre x post s e h => ?_)
  subst h
  refine ⟨_, hs pre x post e, ?_⟩
  rw [List.filter_append, List.filter_cons]
  cases p x <;> simp
class ShpD {α : Type} {A : R α} (D : Dat A) where
  ok : α → Prop
  n : Nat
  can : ∀ a, ok a → (D.d a).canLay0 = true
  dep : ∀ a, (D.d a).depth ≤ n
class ShpR {α : Type} {B : RR α} (E : DatR B) where
  ok : α → Prop
  n : Nat
  can : ∀ a, ok a → PyData.canLayAll0 (E.d a) = true
  dep : ∀ a, PyData.depthAll (E.d a) ≤ n
theorem shpD {α : Type} {A : R α} {D : Dat A} [i : ShpD D] {a : α} (h : i.ok a) (hn : i.n ≤ 64 := by decide) : shp D a = true := shp_of (i.can a h) (Nat.le_trans (i.dep a) hn)
instance sI : ShpD dI := ⟨fun _ => True, 0, fun _ _ => rfl, fun _ => Nat.le_refl _⟩
instance sB : ShpD dB := ⟨fun _ => True, 0, fun _ _ => rfl, fun _ => Nat.le_refl _⟩
instance sS : ShpD dS := ⟨okS, 0, fun _ h => h, fun _ => Nat.le_refl _⟩
instance sL {α : Type} {A : R α} {D : Dat A} [i : ShpD D] : ShpD (dL D) := ⟨fun xs => ∀ x ∈ xs, i.ok x, i.n + 1, fun xs h => canAll D fun x hx => i.can x (h x hx), fun xs => by
  show PyData.depthAll (xs.map D.d) + 1 ≤ _
  have := depAll D (n := i.n) (xs := xs) fun x _ => i.dep x
  omega⟩
instance sT {α : Type} {A : R α} {D : Dat A} [i : ShpD D] : ShpD (dT D) := ⟨fun xs => ∀ x ∈ xs, i.ok x, i.n + 1, fun xs h => canAll D fun x hx => i.can x (h x hx), fun xs => by
  show PyData.depthAll (xs.map D.d) + 1 ≤ _
  have := depAll D (n := i.n) (xs := xs) fun x _ => i.dep x
  omega⟩
instance s2 {α β : Type} {A : R α} {B : R β} {D : Dat A} {E : Dat B} [i : ShpD D] [j : ShpD E] : ShpD (d2 D E) := ⟨fun a => i.ok a.1 ∧ j.ok a.2, max i.n j.n + 1, fun a h => by
  show ((D.d a.1).canLay0 && ((E.d a.2).canLay0 && true)) = true
  rw [i.can _ h.1, j.can _ h.2]; rfl, fun a => by
  show max (D.d a.1).depth (max (E.d a.2).depth 0) + 1 ≤ _
  have h1 := i.dep a.1
  have h2 := j.dep a.2
  omega⟩
def optOk {α : Type} (P : α → Prop) : Option α → Prop
  | none => True
  | some a => P a
instance sO {α : Type} {A : R α} {D : Dat A} [NotNone D] [i : ShpD D] : ShpD (dO D) := ⟨optOk i.ok, i.n, fun a h => by
  cases a with
  | none => rfl
  | some a => exact i.can a h, fun a => by
  cases a with
  | none => exact Nat.zero_le _
  | some a => exact i.dep a⟩
instance sr1 {α : Type} {A : R α} {D : Dat A} [i : ShpD D] : ShpR (e1 D) := ⟨i.ok, i.n, fun a h => by
  show ((D.d a).canLay0 && true) = true
  rw [i.can _ h]; rfl, fun a => by
  show max (D.d a).depth 0 ≤ _
  have := i.dep a
  omega⟩
instance src {α β : Type} {A : R α} {B : RR β} {D : Dat A} {E : DatR B} [i : ShpD D] [j : ShpR E] : ShpR (ec D E) := ⟨fun a => i.ok a.1 ∧ j.ok a.2, max i.n j.n, fun a h => by
  show ((D.d a.1).canLay0 && PyData.canLayAll0 (E.d a.2)) = true
  rw [i.can _ h.1, j.can _ h.2]; rfl, fun a => by
  show max (D.d a.1).depth (PyData.depthAll (E.d a.2)) ≤ _
  have h1 := i.dep a.1
  have h2 := j.dep a.2
  omega⟩
instance sLr {α : Type} {B : RR α} {E : DatR B} [i : ShpR E] : ShpD (dLr E) := ⟨i.ok, i.n + 1, fun a h => i.can a h, fun a => Nat.succ_le_succ (i.dep a)⟩
instance sTr {α : Type} {B : RR α} {E : DatR B} [i : ShpR E] : ShpD (dTr E) := ⟨i.ok, i.n + 1, fun a h => i.can a h, fun a => Nat.succ_le_succ (i.dep a)⟩
end Gl
namespace Law
open PySem PySem.Spec PyProof.Rows L2 Gl
def top (i : Nat) : Stmt := PySem.Challenge.pw_gluedlines_k27_marks_and_parts_of_rules.main.body.getD i (.Pass ⟨0, 0, 0, 0⟩)
abbrev s_law_pool : Stmt := top 39
abbrev s_law_take : Stmt := top 40
abbrev s_law_all_signs : Stmt := top 41
abbrev s_law_text : Stmt := top 42
abbrev s_law_parts : Stmt := top 43
abbrev s_law_tree : Stmt := top 48
abbrev s_law_rule : Stmt := top 52
abbrev s_is_allowed_rules : Stmt := top 33
abbrev s_check_settings : Stmt := top 35
abbrev s_Rule___init__ : Stmt := inClass (top 37) 0
abbrev s_Form___str__ : Stmt := inClass (top 28) 4
abbrev s_Both___str__ : Stmt := inClass (top 29) 1
abbrev s_Either___str__ : Stmt := inClass (top 30) 1
abbrev s_are_among : Stmt := top 36
abbrev s_Rule_is_part_of : Stmt := inClass (top 37) 18
abbrev s_Rule___eq__ : Stmt := inClass (top 37) 19
abbrev s_Form_forms : Stmt := inClass (top 28) 6
abbrev s_Either_forms : Stmt := inClass (top 30) 2
abbrev s_Both_forms : Stmt := inClass (top 29) 2
abbrev s_Either___init__ : Stmt := inClass (top 30) 0
abbrev s_Pattern___or__ : Stmt := inClass (top 27) 1
abbrev s_Both___init__ : Stmt := inClass (top 29) 0
abbrev s_Pattern___and__ : Stmt := inClass (top 27) 0
abbrev s_is_line : Stmt := top 9
abbrev s_is_allowed : Stmt := top 25
abbrev s_Form___init__ : Stmt := inClass (top 28) 3
abbrev s_law_form : Stmt := top 44
abbrev s_law_built : Stmt := top 49
abbrev s_law_marks : Stmt := top 53
abbrev s_law_ruled : Stmt := top 54
abbrev s_law_name : Stmt := top 57
abbrev s_law_among : Stmt := top 60
abbrev s_law_part : Stmt := top 61
abbrev s_law_line : Stmt := top 47
abbrev s_law_written : Stmt := top 51
abbrev s_law_row : Stmt := top 56
abbrev s_Form___contains__ : Stmt := inClass (top 27) 2
abbrev s_Both___contains__ : Stmt := inClass (top 27) 2
abbrev s_Either___contains__ : Stmt := inClass (top 27) 2
abbrev s_Form_holds : Stmt := inClass (top 28) 7
abbrev s_Either_holds : Stmt := inClass (top 30) 3
abbrev s_Both_holds : Stmt := inClass (top 29) 3
abbrev s_cells_of : Stmt := top 15
abbrev s_closed : Stmt := top 17
abbrev s_started : Stmt := top 18
abbrev s_Form_parts : Stmt := inClass (top 28) 5
abbrev s_takes : Stmt := top 16
abbrev s_moved : Stmt := top 19
abbrev s_is_done : Stmt := top 20
abbrev s_pat___contains__ : Stmt := inClass (top 27) 2
abbrev s_Rule_begins_on : Stmt := inClass (top 37) 12
abbrev s_law_ends : Stmt := top 45
abbrev s_law_fits : Stmt := top 46
abbrev s_law_bears : Stmt := top 50
abbrev s_law_marked : Stmt := top 55
abbrev s_Rule_ends_on : Stmt := inClass (top 37) 13
abbrev s_law_lines : Stmt := top 62
abbrev s_law_right : Stmt := top 66
abbrev s_Rule_by_first : Stmt := inClass (top 37) 15
abbrev s_Rule_by_last : Stmt := inClass (top 37) 16
abbrev s_Rule_every_line : Stmt := inClass (top 37) 17
abbrev s_Rule_quiet : Stmt := inClass (top 37) 7
abbrev s_law_too_many : Stmt := top 64
abbrev s_Rule_begins : Stmt := inClass (top 37) 10
abbrev s_law_texts : Stmt := top 63
abbrev s_Rule_ends : Stmt := inClass (top 37) 11
abbrev s_Rule_most : Stmt := inClass (top 37) 1
abbrev s_Rule_tags : Stmt := inClass (top 37) 5
abbrev s_Rule_alone : Stmt := inClass (top 37) 3
abbrev s_law_statics : Stmt := top 65
abbrev s_law_mixed : Stmt := top 58
abbrev s_law_other : Stmt := top 59
abbrev s_law : Stmt := top 67
abbrev si_NoRule : Stmt := inClass (top 4) 0
def fn : List He.DefD := [⟨("_law_pool", none), "_law_pool", "_law_pool", defArgs s_law_pool, defBody s_law_pool, defScope s_law_pool, [], []⟩,
  ⟨("_law_take", none), "_law_take", "_law_take", defArgs s_law_take, defBody s_law_take, defScope s_law_take, [], []⟩,
  ⟨("_law_all_signs", none), "_law_all_signs", "_law_all_signs", defArgs s_law_all_signs, defBody s_law_all_signs, defScope s_law_all_signs, [], []⟩,
  ⟨("_law_text", none), "_law_text", "_law_text", defArgs s_law_text, defBody s_law_text, defScope s_law_text, [], []⟩,
  ⟨("_law_parts", none), "_law_parts", "_law_parts", defArgs s_law_parts, defBody s_law_parts, defScope s_law_parts, [], []⟩,
  ⟨("_law_tree", none), "_law_tree", "_law_tree", defArgs s_law_tree, defBody s_law_tree, defScope s_law_tree, [], []⟩,
  ⟨("_law_rule", none), "_law_rule", "_law_rule", defArgs s_law_rule, defBody s_law_rule, defScope s_law_rule, [], []⟩,
  ⟨("is_allowed_rules", none), "is_allowed", "is_allowed", defArgs s_is_allowed_rules, defBody s_is_allowed_rules, defScope s_is_allowed_rules, [], []⟩,
  ⟨("check_settings", none), "check_settings", "check_settings", defArgs s_check_settings, defBody s_check_settings, defScope s_check_settings, [], []⟩,
  ⟨("Rule", some "__init__"), "__init__", "Rule.__init__", defArgs s_Rule___init__, defBody s_Rule___init__, defScope s_Rule___init__, [], [("most", .non), ("alone", .bl true), ("tags", .non), ("quiet", .bl false)]⟩,
  ⟨("Form", some "__str__"), "__str__", "Form.__str__", defArgs s_Form___str__, defBody s_Form___str__, defScope s_Form___str__, [], []⟩,
  ⟨("Both", some "__str__"), "__str__", "Both.__str__", defArgs s_Both___str__, defBody s_Both___str__, defScope s_Both___str__, [], []⟩,
  ⟨("Either", some "__str__"), "__str__", "Either.__str__", defArgs s_Either___str__, defBody s_Either___str__, defScope s_Either___str__, [], []⟩,
  ⟨("are_among", none), "are_among", "are_among", defArgs s_are_among, defBody s_are_among, defScope s_are_among, [], []⟩,
  ⟨("Rule", some "is_part_of"), "is_part_of", "Rule.is_part_of", defArgs s_Rule_is_part_of, defBody s_Rule_is_part_of, defScope s_Rule_is_part_of, [], []⟩,
  ⟨("Rule", some "__eq__"), "__eq__", "Rule.__eq__", defArgs s_Rule___eq__, defBody s_Rule___eq__, defScope s_Rule___eq__, [], []⟩,
  ⟨("Form", some "forms"), "forms", "Form.forms", defArgs s_Form_forms, defBody s_Form_forms, defScope s_Form_forms, [], []⟩,
  ⟨("Either", some "forms"), "forms", "Either.forms", defArgs s_Either_forms, defBody s_Either_forms, defScope s_Either_forms, [], []⟩,
  ⟨("Both", some "forms"), "forms", "Both.forms", defArgs s_Both_forms, defBody s_Both_forms, defScope s_Both_forms, [], []⟩,
  ⟨("Either", some "__init__"), "__init__", "Either.__init__", defArgs s_Either___init__, defBody s_Either___init__, defScope s_Either___init__, [], []⟩,
  ⟨("Pattern", some "__or__"), "__or__", "Pattern.__or__", defArgs s_Pattern___or__, defBody s_Pattern___or__, defScope s_Pattern___or__, [], []⟩,
  ⟨("Both", some "__init__"), "__init__", "Both.__init__", defArgs s_Both___init__, defBody s_Both___init__, defScope s_Both___init__, [], []⟩,
  ⟨("Pattern", some "__and__"), "__and__", "Pattern.__and__", defArgs s_Pattern___and__, defBody s_Pattern___and__, defScope s_Pattern___and__, [], []⟩,
  ⟨("is_line", none), "is_line", "is_line", defArgs s_is_line, defBody s_is_line, defScope s_is_line, [], []⟩,
  ⟨("is_allowed_patterns", none), "is_allowed", "is_allowed", defArgs s_is_allowed, defBody s_is_allowed, defScope s_is_allowed, [], []⟩,
  ⟨("Form", some "__init__"), "__init__", "Form.__init__", defArgs s_Form___init__, defBody s_Form___init__, defScope s_Form___init__, [], []⟩,
  ⟨("_law_form", none), "_law_form", "_law_form", defArgs s_law_form, defBody s_law_form, defScope s_law_form, [], []⟩,
  ⟨("_law_built", none), "_law_built", "_law_built", defArgs s_law_built, defBody s_law_built, defScope s_law_built, [], []⟩,
  ⟨("_law_marks", none), "_law_marks", "_law_marks", defArgs s_law_marks, defBody s_law_marks, defScope s_law_marks, [], []⟩,
  ⟨("_law_ruled", none), "_law_ruled", "_law_ruled", defArgs s_law_ruled, defBody s_law_ruled, defScope s_law_ruled, [], []⟩,
  ⟨("_law_name", none), "_law_name", "_law_name", defArgs s_law_name, defBody s_law_name, defScope s_law_name, [], []⟩,
  ⟨("_law_among", none), "_law_among", "_law_among", defArgs s_law_among, defBody s_law_among, defScope s_law_among, [], []⟩,
  ⟨("_law_part", none), "_law_part", "_law_part", defArgs s_law_part, defBody s_law_part, defScope s_law_part, [], []⟩,
  ⟨("_law_line", none), "_law_line", "_law_line", defArgs s_law_line, defBody s_law_line, defScope s_law_line, [], []⟩,
  ⟨("_law_written", none), "_law_written", "_law_written", defArgs s_law_written, defBody s_law_written, defScope s_law_written, [], []⟩,
  ⟨("_law_row", none), "_law_row", "_law_row", defArgs s_law_row, defBody s_law_row, defScope s_law_row, [], []⟩,
  ⟨("Form", some "__contains__"), "__contains__", "Pattern.__contains__", defArgs s_Form___contains__, defBody s_Form___contains__, defScope s_Form___contains__, [], []⟩,
  ⟨("Both", some "__contains__"), "__contains__", "Pattern.__contains__", defArgs s_Both___contains__, defBody s_Both___contains__, defScope s_Both___contains__, [], []⟩,
  ⟨("Either", some "__contains__"), "__contains__", "Pattern.__contains__", defArgs s_Either___contains__, defBody s_Either___contains__, defScope s_Either___contains__, [], []⟩,
  ⟨("Form", some "holds"), "holds", "Form.holds", defArgs s_Form_holds, defBody s_Form_holds, defScope s_Form_holds, [], []⟩,
  ⟨("Either", some "holds"), "holds", "Either.holds", defArgs s_Either_holds, defBody s_Either_holds, defScope s_Either_holds, [], []⟩,
  ⟨("Both", some "holds"), "holds", "Both.holds", defArgs s_Both_holds, defBody s_Both_holds, defScope s_Both_holds, [], []⟩,
  ⟨("cells_of", none), "cells_of", "cells_of", defArgs s_cells_of, defBody s_cells_of, defScope s_cells_of, [], []⟩,
  ⟨("closed", none), "closed", "closed", defArgs s_closed, defBody s_closed, defScope s_closed, [], []⟩,
  ⟨("started", none), "started", "started", defArgs s_started, defBody s_started, defScope s_started, [], []⟩,
  ⟨("Form", some "parts"), "parts", "Form.parts", defArgs s_Form_parts, defBody s_Form_parts, defScope s_Form_parts, [], []⟩,
  ⟨("takes", none), "takes", "takes", defArgs s_takes, defBody s_takes, defScope s_takes, [], []⟩,
  ⟨("moved", none), "moved", "moved", defArgs s_moved, defBody s_moved, defScope s_moved, [], []⟩,
  ⟨("is_done", none), "is_done", "is_done", defArgs s_is_done, defBody s_is_done, defScope s_is_done, [], []⟩,
  ⟨("Rule", some "begins_on"), "begins_on", "Rule.begins_on", defArgs s_Rule_begins_on, defBody s_Rule_begins_on, defScope s_Rule_begins_on, [], []⟩,
  ⟨("_law_ends", none), "_law_ends", "_law_ends", defArgs s_law_ends, defBody s_law_ends, defScope s_law_ends, [], []⟩,
  ⟨("_law_fits", none), "_law_fits", "_law_fits", defArgs s_law_fits, defBody s_law_fits, defScope s_law_fits, [], []⟩,
  ⟨("_law_bears", none), "_law_bears", "_law_bears", defArgs s_law_bears, defBody s_law_bears, defScope s_law_bears, [], []⟩,
  ⟨("_law_marked", none), "_law_marked", "_law_marked", defArgs s_law_marked, defBody s_law_marked, defScope s_law_marked, [], []⟩,
  ⟨("Rule", some "ends_on"), "ends_on", "Rule.ends_on", defArgs s_Rule_ends_on, defBody s_Rule_ends_on, defScope s_Rule_ends_on, [], []⟩,
  ⟨("_law_lines", none), "_law_lines", "_law_lines", defArgs s_law_lines, defBody s_law_lines, defScope s_law_lines, [], []⟩,
  ⟨("_law_right", none), "_law_right", "_law_right", defArgs s_law_right, defBody s_law_right, defScope s_law_right, [], []⟩,
  ⟨("_law_too_many", none), "_law_too_many", "_law_too_many", defArgs s_law_too_many, defBody s_law_too_many, defScope s_law_too_many, [], []⟩,
  ⟨("Rule", some "begins"), "begins", "Rule.begins", defArgs s_Rule_begins, defBody s_Rule_begins, defScope s_Rule_begins, [], []⟩,
  ⟨("_law_texts", none), "_law_texts", "_law_texts", defArgs s_law_texts, defBody s_law_texts, defScope s_law_texts, [], []⟩,
  ⟨("Rule", some "ends"), "ends", "Rule.ends", defArgs s_Rule_ends, defBody s_Rule_ends, defScope s_Rule_ends, [], []⟩,
  ⟨("_law_statics", none), "_law_statics", "_law_statics", defArgs s_law_statics, defBody s_law_statics, defScope s_law_statics, [], []⟩,
  ⟨("_law_mixed", none), "_law_mixed", "_law_mixed", defArgs s_law_mixed, defBody s_law_mixed, defScope s_law_mixed, [], []⟩,
  ⟨("_law_other", none), "_law_other", "_law_other", defArgs s_law_other, defBody s_law_other, defScope s_law_other, [], []⟩,
  ⟨("law", none), "law", "law", defArgs s_law, defBody s_law, defScope s_law, [], []⟩]
def fa : List He.Fa := [.glo "_law_pool", .glo "_law_take", .glo "_law_all_signs", .glo "_law_text", .glo "_law_parts", .glo "_law_tree", .glo "_law_rule", .glo "is_allowed_rules", .glo "check_settings", .glo "are_among", .glo "is_line", .glo "is_allowed_patterns", .glo "_law_form", .glo "_law_built", .glo "_law_marks", .glo "_law_ruled", .glo "_law_name", .glo "_law_among", .glo "_law_part", .glo "_law_line", .glo "_law_written", .glo "_law_row", .glo "cells_of", .glo "closed", .glo "started", .glo "takes", .glo "moved", .glo "is_done", .glo "_law_ends", .glo "_law_fits", .glo "_law_bears", .glo "_law_marked", .glo "_law_lines", .glo "_law_right", .glo "_law_too_many", .glo "_law_texts", .glo "_law_statics", .glo "_law_mixed", .glo "_law_other", .glo "law", .glo "Form", .cls "Form", .noat "Form" "pieces", .meth "Form" "__str__", .meth "Form" "forms", .mkr "Form", .meth "Form" "__contains__", .meth "Form" "holds", .meth "Form" "parts", .glo "Both", .cls "Both", .noat "Both" "left", .noat "Both" "right", .meth "Both" "__str__", .meth "Both" "forms", .mkr "Both", .meth "Both" "__contains__", .meth "Both" "holds", .glo "Either", .cls "Either", .noat "Either" "left", .noat "Either" "right", .meth "Either" "__str__", .meth "Either" "forms", .mkr "Either", .meth "Either" "__contains__", .meth "Either" "holds", .glo "Pattern", .cls "Pattern", .meth "Pattern" "__or__", .meth "Pattern" "__and__", .glo "Rule", .cls "Rule", .noat "Rule" "openers", .noat "Rule" "closers", .noat "Rule" "settings", .mkr "Rule", .meth "Rule" "is_part_of", .meth "Rule" "__eq__", .meth "Rule" "begins_on", .meth "Rule" "ends_on", .meth "Rule" "begins", .meth "Rule" "ends", .glo "NoRule", .free "all", .free "any", .free "bool", .free "int", .free "isinstance", .free "len", .free "list", .free "max", .free "min", .free "range", .free "str", .free "tuple", .str "ANY_CELL" "<any>", .str "DIGITS_CELL" "<digits>", .str "DIGIT_SIGNS" "0123456789", .glo "FIELDS", .glo "FREE_CELLS", .str "LETTER_SIGNS" "ABCDEFGHIJKLMNOPQRSTUVWXYZabcdefghijklmnopqrstuvwxyz", .int "MOST_FORMS" 3, .int "MOST_PARTS" 4, .int "MOST_SIGNS" 4, .str "SIGNS" " #-.0123456789:>ABCDEFGHIJKLMNOPQRSTUVWXYZabcdefghijklmnopqrstuvwxyz", .str "WORD_CELL" "<word>"]
abbrev FnU : Type := Option (Str × Str × Arguments × FuncBody × Scope × Addr × Addr)
def fwDrop (z : Str × Str × Arguments × FuncBody × Scope × Addr × List (Str × Addr) × Addr) : Str × Str × Arguments × FuncBody × Scope × Addr × Addr := (z.1, z.2.1, z.2.2.1, z.2.2.2.1, z.2.2.2.2.1, z.2.2.2.2.2.1, z.2.2.2.2.2.2.2)
theorem fw_mk {L : He.FnW} {n q : Str} {a : Arguments} {b : FuncBody} {s : Scope} {m m' : Addr} {c : List (Str × Addr)} (h : L.map fwDrop = some (n, q, a, b, s, m, m')) (k : decide (L.map (fun z => z.2.2.2.2.2.2.1) = some c) = true) : L = some (n, q, a, b, s, m, c, m') := by
  have k := of_decide_eq_true k
  cases L with
  | none => cases h
  | some z =>
    obtain ⟨z1, z2, z3, z4, z5, z6, z7, z8⟩ := z
    have k : z7 = c := Option.some.inj k
    have h : (z1, z2, z3, z4, z5, z6, z8) = (n, q, a, b, s, m, m') := Option.some.inj h
    simp only [Prod.mk.injEq] at h
    obtain ⟨h1, h2, h3, h4, h5, h6, h7⟩ := h
    rw [k, h1, h2, h3, h4, h5, h6, h7]
def fwL_NoRule (K : PySem.W.Frag) : He.FnW := He.fnW K ("NoRule", some "__init__")
def lhs_NoRule (K : PySem.W.Frag) : FnU := (fwL_NoRule K).map fwDrop
def rhs_NoRule : FnU := some (("__init__" : Str), ("NoRule.__init__" : Str), defArgs si_NoRule, FuncBody.stmts (defBody si_NoRule), defScope si_NoRule, mainGlobals, builtinsNs)
def clo_NoRule (K : PySem.W.Frag) : List (Str × Addr) := [(("__class__" : Str), ccOf K "NoRule")]
def fwL_Rule_by_first (K : PySem.W.Frag) : He.FnW := fnT K "Rule" "by_first"
def lhs_Rule_by_first (K : PySem.W.Frag) : FnU := (fwL_Rule_by_first K).map fwDrop
def rhs_Rule_by_first : FnU := some (("by_first" : Str), ("Rule.by_first" : Str), defArgs s_Rule_by_first, FuncBody.stmts (defBody s_Rule_by_first), defScope s_Rule_by_first, mainGlobals, builtinsNs)
def clo_Rule_by_first (K : PySem.W.Frag) : List (Str × Addr) := []
def fwL_Rule_by_last (K : PySem.W.Frag) : He.FnW := fnT K "Rule" "by_last"
def lhs_Rule_by_last (K : PySem.W.Frag) : FnU := (fwL_Rule_by_last K).map fwDrop
def rhs_Rule_by_last : FnU := some (("by_last" : Str), ("Rule.by_last" : Str), defArgs s_Rule_by_last, FuncBody.stmts (defBody s_Rule_by_last), defScope s_Rule_by_last, mainGlobals, builtinsNs)
def clo_Rule_by_last (K : PySem.W.Frag) : List (Str × Addr) := []
def fwL_Rule_every_line (K : PySem.W.Frag) : He.FnW := fnT K "Rule" "every_line"
def lhs_Rule_every_line (K : PySem.W.Frag) : FnU := (fwL_Rule_every_line K).map fwDrop
def rhs_Rule_every_line : FnU := some (("every_line" : Str), ("Rule.every_line" : Str), defArgs s_Rule_every_line, FuncBody.stmts (defBody s_Rule_every_line), defScope s_Rule_every_line, mainGlobals, builtinsNs)
def clo_Rule_every_line (K : PySem.W.Frag) : List (Str × Addr) := []
def fwL_Rule_quiet (K : PySem.W.Frag) : He.FnW := fnG K "Rule" "quiet"
def lhs_Rule_quiet (K : PySem.W.Frag) : FnU := (fwL_Rule_quiet K).map fwDrop
def rhs_Rule_quiet : FnU := some (("quiet" : Str), ("Rule.quiet" : Str), defArgs s_Rule_quiet, FuncBody.stmts (defBody s_Rule_quiet), defScope s_Rule_quiet, mainGlobals, builtinsNs)
def clo_Rule_quiet (K : PySem.W.Frag) : List (Str × Addr) := []
def fwL_Rule_most (K : PySem.W.Frag) : He.FnW := fnG K "Rule" "most"
def lhs_Rule_most (K : PySem.W.Frag) : FnU := (fwL_Rule_most K).map fwDrop
def rhs_Rule_most : FnU := some (("most" : Str), ("Rule.most" : Str), defArgs s_Rule_most, FuncBody.stmts (defBody s_Rule_most), defScope s_Rule_most, mainGlobals, builtinsNs)
def clo_Rule_most (K : PySem.W.Frag) : List (Str × Addr) := []
def fwL_Rule_tags (K : PySem.W.Frag) : He.FnW := fnG K "Rule" "tags"
def lhs_Rule_tags (K : PySem.W.Frag) : FnU := (fwL_Rule_tags K).map fwDrop
def rhs_Rule_tags : FnU := some (("tags" : Str), ("Rule.tags" : Str), defArgs s_Rule_tags, FuncBody.stmts (defBody s_Rule_tags), defScope s_Rule_tags, mainGlobals, builtinsNs)
def clo_Rule_tags (K : PySem.W.Frag) : List (Str × Addr) := []
def fwL_Rule_alone (K : PySem.W.Frag) : He.FnW := fnG K "Rule" "alone"
def lhs_Rule_alone (K : PySem.W.Frag) : FnU := (fwL_Rule_alone K).map fwDrop
def rhs_Rule_alone : FnU := some (("alone" : Str), ("Rule.alone" : Str), defArgs s_Rule_alone, FuncBody.stmts (defBody s_Rule_alone), defScope s_Rule_alone, mainGlobals, builtinsNs)
def clo_Rule_alone (K : PySem.W.Frag) : List (Str × Addr) := []
def fw_NoRule (K : PySem.W.Frag) : Prop := He.fnW K ("NoRule", some "__init__") = some (("__init__" : Str), ("NoRule.__init__" : Str), defArgs si_NoRule, FuncBody.stmts (defBody si_NoRule), defScope si_NoRule, mainGlobals, [(("__class__" : Str), ccOf K "NoRule")], builtinsNs)
def fw_Rule_by_first (K : PySem.W.Frag) : Prop := fnT K "Rule" "by_first" = some (("by_first" : Str), ("Rule.by_first" : Str), defArgs s_Rule_by_first, FuncBody.stmts (defBody s_Rule_by_first), defScope s_Rule_by_first, mainGlobals, [], builtinsNs)
def fw_Rule_by_last (K : PySem.W.Frag) : Prop := fnT K "Rule" "by_last" = some (("by_last" : Str), ("Rule.by_last" : Str), defArgs s_Rule_by_last, FuncBody.stmts (defBody s_Rule_by_last), defScope s_Rule_by_last, mainGlobals, [], builtinsNs)
def fw_Rule_every_line (K : PySem.W.Frag) : Prop := fnT K "Rule" "every_line" = some (("every_line" : Str), ("Rule.every_line" : Str), defArgs s_Rule_every_line, FuncBody.stmts (defBody s_Rule_every_line), defScope s_Rule_every_line, mainGlobals, [], builtinsNs)
def fw_Rule_quiet (K : PySem.W.Frag) : Prop := fnG K "Rule" "quiet" = some (("quiet" : Str), ("Rule.quiet" : Str), defArgs s_Rule_quiet, FuncBody.stmts (defBody s_Rule_quiet), defScope s_Rule_quiet, mainGlobals, [], builtinsNs)
def fw_Rule_most (K : PySem.W.Frag) : Prop := fnG K "Rule" "most" = some (("most" : Str), ("Rule.most" : Str), defArgs s_Rule_most, FuncBody.stmts (defBody s_Rule_most), defScope s_Rule_most, mainGlobals, [], builtinsNs)
def fw_Rule_tags (K : PySem.W.Frag) : Prop := fnG K "Rule" "tags" = some (("tags" : Str), ("Rule.tags" : Str), defArgs s_Rule_tags, FuncBody.stmts (defBody s_Rule_tags), defScope s_Rule_tags, mainGlobals, [], builtinsNs)
def fw_Rule_alone (K : PySem.W.Frag) : Prop := fnG K "Rule" "alone" = some (("alone" : Str), ("Rule.alone" : Str), defArgs s_Rule_alone, FuncBody.stmts (defBody s_Rule_alone), defScope s_Rule_alone, mainGlobals, [], builtinsNs)
def tabs (P : Program) (K : PySem.W.Frag) : Bool := (patB K && (He.tupB K "FIELDS" [.str "most", .str "alone", .str "tags", .str "quiet"] && (He.tupB K "FREE_CELLS" [.str "<digits>", .str "<word>", .str "<any>"] && (cvB K (He.ga K "Form") "ANY" "<any>" && (errB P K "NoRule" "NoRule.__init__" ["field"] && (exmB K "NoRule" "NoRule" && (ownEB K "Rule" && (smB K "Rule" "by_first" "Rule.by_first" && (smB K "Rule" "by_last" "Rule.by_last" && (smB K "Rule" "every_line" "Rule.every_line" && (prB K "Rule" "quiet" "Rule.quiet" && (prB K "Rule" "most" "Rule.most" && (prB K "Rule" "tags" "Rule.tags" && (prB K "Rule" "alone" "Rule.alone" && true))))))))))))))
abbrev RR : PySem.W.OpenRow := PySem.W.OpenLaw.row PySem.Challenge.rw_gluedlines_k27_marks_and_parts_of_rules
def loose0 : List PySem.Str := [("_wall" : PySem.Str), ("GlueError" : PySem.Str), ("NoForm" : PySem.Str), ("NoRule" : PySem.Str), ("SIGNS" : PySem.Str), ("DIGIT_SIGNS" : PySem.Str), ("LETTER_SIGNS" : PySem.Str), ("is_line" : PySem.Str), ("DIGITS_CELL" : PySem.Str), ("WORD_CELL" : PySem.Str), ("ANY_CELL" : PySem.Str), ("FREE_CELLS" : PySem.Str), ("cells_of" : PySem.Str), ("takes" : PySem.Str), ("closed" : PySem.Str), ("started" : PySem.Str), ("moved" : PySem.Str), ("is_done" : PySem.Str), ("MOST_FORMS" : PySem.Str), ("MOST_PARTS" : PySem.Str), ("MOST_SIGNS" : PySem.Str), ("is_allowed" : PySem.Str), ("is_allowed_patterns" : PySem.Str), ("Pattern" : PySem.Str), ("Form" : PySem.Str), ("Both" : PySem.Str), ("Either" : PySem.Str), ("FIELDS" : PySem.Str), ("is_allowed_rules" : PySem.Str), ("check_settings" : PySem.Str), ("are_among" : PySem.Str), ("Rule" : PySem.Str), ("_law_pool" : PySem.Str), ("_law_take" : PySem.Str), ("_law_all_signs" : PySem.Str), ("_law_text" : PySem.Str), ("_law_parts" : PySem.Str), ("_law_form" : PySem.Str), ("_law_ends" : PySem.Str), ("_law_fits" : PySem.Str)]
def loose1 : List PySem.Str := [("_law_line" : PySem.Str), ("_law_tree" : PySem.Str), ("_law_built" : PySem.Str), ("_law_bears" : PySem.Str), ("_law_written" : PySem.Str), ("_law_rule" : PySem.Str), ("_law_marks" : PySem.Str), ("_law_ruled" : PySem.Str), ("_law_marked" : PySem.Str), ("_law_row" : PySem.Str), ("_law_name" : PySem.Str), ("_law_mixed" : PySem.Str), ("_law_other" : PySem.Str), ("_law_among" : PySem.Str), ("_law_part" : PySem.Str), ("_law_lines" : PySem.Str), ("_law_texts" : PySem.Str), ("_law_too_many" : PySem.Str), ("_law_statics" : PySem.Str), ("_law_right" : PySem.Str)]
def loose : List PySem.Str := loose0 ++ loose1
def refsN (o : Obj) : List Addr := match o.data with
  | .seq its _ => its.toList.flatMap He.refV
  | .dict es _ => es.toList.flatMap fun e => He.refV e.val
  | .func fd => He.refV fd.code ++ He.refV fd.defaults ++ He.refV fd.kwdefaults ++ fd.closure.map (·.2)
  | .cls cd => [cd.ns]
  | .fields vs => vs.toList.flatMap He.refV
  | .cell (some v) => He.refV v
  | _ => []
def levG (g : Addr → Option Obj) : Nat → List Addr → List Addr
  | 0, as => as
  | n + 1, as => as ++ levG g n (as.flatMap fun a => match g a with
    | some o => refsN o
    | none => [])
def obK (K : PySem.W.Frag) : Bool × List FnU × He.AlD := (tabs RR.prog K && decide ((fwL_NoRule K).map (fun z => z.2.2.2.2.2.2.1) = some (clo_NoRule K)) && decide ((fwL_Rule_by_first K).map (fun z => z.2.2.2.2.2.2.1) = some (clo_Rule_by_first K)) && decide ((fwL_Rule_by_last K).map (fun z => z.2.2.2.2.2.2.1) = some (clo_Rule_by_last K)) && decide ((fwL_Rule_every_line K).map (fun z => z.2.2.2.2.2.2.1) = some (clo_Rule_every_line K)) && decide ((fwL_Rule_quiet K).map (fun z => z.2.2.2.2.2.2.1) = some (clo_Rule_quiet K)) && decide ((fwL_Rule_most K).map (fun z => z.2.2.2.2.2.2.1) = some (clo_Rule_most K)) && decide ((fwL_Rule_tags K).map (fun z => z.2.2.2.2.2.2.1) = some (clo_Rule_tags K)) && decide ((fwL_Rule_alone K).map (fun z => z.2.2.2.2.2.2.1) = some (clo_Rule_alone K)), [lhs_NoRule K, lhs_Rule_by_first K, lhs_Rule_by_last K, lhs_Rule_every_line K, lhs_Rule_quiet K, lhs_Rule_most K, lhs_Rule_tags K, lhs_Rule_alone K], He.obsD fa fn K)
def obG (g : Addr → Option Obj) : Bool × List FnU × He.AlD := obK (He.frG g (cStatics :: levG g 5 [mainGlobals]))
def hk : PySem.W.Hook where
  α := Bool × List FnU × He.AlD
  obs := fun s => obG s.heap.get?
  val := fun _ => (true, [rhs_NoRule, rhs_Rule_by_first, rhs_Rule_by_last, rhs_Rule_every_line, rhs_Rule_quiet, rhs_Rule_most, rhs_Rule_tags, rhs_Rule_alone], He.valD fn)
  says := fun _ h => ∃ K : PySem.W.Frag, K.In h ∧ obK K = (true, [rhs_NoRule, rhs_Rule_by_first, rhs_Rule_by_last, rhs_Rule_every_line, rhs_Rule_quiet, rhs_Rule_most, rhs_Rule_tags, rhs_Rule_alone], He.valD fn)
  of := fun _ _ e => ⟨_, He.frG_in, e⟩
  keeps := fun _ _ _ ⟨K, hK, c⟩ k => ⟨K, PySem.W.Frag.In.keeps hK k, c⟩
def ob (s : PySem.W.SharedT) : Bool × List FnU × He.AlD := obG (HandSHeadRun.getT s)
theorem ob_eq (s : PySem.W.SharedT) : ob s = hk.obs s.abs := by
  have e : HandSHeadRun.getT s = s.abs.heap.get? := funext (HandSHeadRun.getT_eq s)
  show obG (HandSHeadRun.getT s) = obG s.abs.heap.get?
  rw [e]
theorem run_join {α β γ δ : Type} {x : Option δ} {A : δ → α} {B : δ → β} {C : δ → γ} {a : α} {b : β} {c : γ} (h1 : x.map A = some a) (h2 : x.map B = some b) (h3 : x.map C = some c) : x.map (fun s => (A s, B s, C s)) = some (a, b, c) := by
  cases x with
  | none => cases h1
  | some s =>
    have e1 : A s = a := Option.some.inj h1
    have e2 : B s = b := Option.some.inj h2
    have e3 : C s = c := Option.some.inj h3
    subst e1 e2 e3
    rfl
theorem runA (w : World) (os : OsState) : (HandSHeadRun.endF (HandSHeadRun.stepQ (HandSHeadRun.denQ HandSHeadRun.tabQ) RR.prog w) 60000 RR.prog w os).map (fun s => HandSHeadRun.looksF RR.prog (PySem.W.boot_heap w.params) s.abs) = some true := by kernel_rfl
theorem runB (w : World) (os : OsState) : (HandSHeadRun.endF (HandSHeadRun.stepQ (HandSHeadRun.denQ HandSHeadRun.tabQ) RR.prog w) 60000 RR.prog w os).map (fun s => HandSHeadRun.seenQ (PySem.W.view RR.prog [67]) loose (PySem.importedModules RR.prog.main.body) (fun s => PySem.W.xlAt (PySem.W.view RR.prog [67]) [] s && PySem.W.recOk RR.toRowW.records s) s.abs) = some (PySem.W.openGood (PySem.W.view RR.prog [67]) loose) := by kernel_rfl
theorem runC (w : World) (os : OsState) : (HandSHeadRun.endF (HandSHeadRun.stepQ (HandSHeadRun.denQ HandSHeadRun.tabQ) RR.prog w) 60000 RR.prog w os).map ob = some (hk.val w) := by kernel_rfl
theorem run (w : World) : HandSHeadRun.RunEq RR (PySem.W.view RR.prog [67]) hk ob 60000 loose w := fun os => run_join (runA w os) (runB w os) (runC w os)

abbrev τ0ₓ := (qLr (fc qS (fc (qL qS) (f1 (qL qS)))))
abbrev τ1ₓ : Type := ((List (Str × (List Str) × (List Str))) × (List (Str × (List Str) × (List Str))) × (Option Int) × Bool × (Option Int) × Bool)
abbrev τ2ₓ := (fc (qL τ0ₓ) (fc (qL τ0ₓ) (fc (qO qI) (fc qB (fc (qO qI) (f1 qB))))))
abbrev τ3ₓ : Type := (List Pat × List Pat × List (Str × Th))
abbrev τ4ₓ : Type := (Str × (List Str) × (List Str))
abbrev τ5ₓ : Type := ((List Pat) × (List Pat) × (List (Str × Th)))

def qBoth : R (Pat × Pat) := ⟨fun K F v a => ∃ (p dx : Addr) (u0 u1 : V), v = .ref p ∧ F p = some (.ins (He.ga K "Both") dx [("left", u0), ("right", u1)]) ∧ qPat.r K F u0 a.1 ∧ qPat.r K F u1 a.2, fun e ⟨p, dx, u0, u1, h1, h2, k0, k1⟩ => ⟨p, dx, u0, u1, h1, e _ _ h2, qPat.mono e k0, qPat.mono e k1⟩⟩
def qEither : R (Pat × Pat) := ⟨fun K F v a => ∃ (p dx : Addr) (u0 u1 : V), v = .ref p ∧ F p = some (.ins (He.ga K "Either") dx [("left", u0), ("right", u1)]) ∧ qPat.r K F u0 a.1 ∧ qPat.r K F u1 a.2, fun e ⟨p, dx, u0, u1, h1, h2, k0, k1⟩ => ⟨p, dx, u0, u1, h1, e _ _ h2, qPat.mono e k0, qPat.mono e k1⟩⟩

def qRule : R τ5ₓ := ⟨fun K F v a => ∃ (p dx : Addr) (u0 u1 u2 : V), v = .ref p ∧ F p = some (.ins (He.ga K "Rule") dx [("openers", u0), ("closers", u1), ("settings", u2)]) ∧ (qL qPat).r K F u0 a.1 ∧ (qL qPat).r K F u1 a.2.1 ∧ qSd.r K F u2 a.2.2, fun e ⟨p, dx, u0, u1, u2, h1, h2, k0, k1, k2⟩ => ⟨p, dx, u0, u1, u2, h1, e _ _ h2, (qL qPat).mono e k0, (qL qPat).mono e k1, qSd.mono e k2⟩⟩
def m_law_pool (a_script : (List Int)) (a_k : Int) : Option (Int × Int) :=
 (((gd (shp (dL dI) a_script) <| gd (shp (dL dI) ([] : List Int)) <| if (!decide (a_script = ([] : List Int))) = true then (gd (modOk ((a_script).length : Int)) <| (atI a_script (a_k % ((a_script).length : Int))).bind fun t14 => some (t14)) else (some (0)))).bind fun (t1 : Int) => gd (modOk 2147483629) <| gd (mulOk 104729 a_k) <| gd (mulOk (((t1 % 2147483629) + (104729 * a_k)) + 11) 48271) <| gd (modOk 2147483647) <| gd (powOk 10 18) <| gd (mulOk t1 (b2I ((decide ((10 ^ (18 : Int).toNat) ≤ t1))))) <| some ((t1 * (b2I ((decide ((10 ^ (18 : Int).toNat) ≤ t1))))), (((((t1 % 2147483629) + (104729 * a_k)) + 11) * 48271) % 2147483647)))
def m_law_take (a_pool_here : (Int × Int)) (a_many : Int) : Option (Int × (Int × Int)) :=
 (if (decide (0 < (a_pool_here).1)) = true then (gd (modOk a_many) <| gd (divOk a_many) <| some (((a_pool_here).1 % a_many), (((a_pool_here).1 / a_many), (a_pool_here).2))) else (gd (mulOk (a_pool_here).2 48271) <| gd (modOk 2147483647) <| gd (mulOk (((a_pool_here).1, ((((a_pool_here).2 * 48271) + 11) % 2147483647))).2 (((a_pool_here).1, ((((a_pool_here).2 * 48271) + 11) % 2147483647))).2) <| gd (modOk 2147483629) <| gd (divOk 64) <| gd (modOk a_many) <| some ((((((((a_pool_here).1, ((((a_pool_here).2 * 48271) + 11) % 2147483647))).2 * (((a_pool_here).1, ((((a_pool_here).2 * 48271) + 11) % 2147483647))).2) % 2147483629) / 64) % a_many), ((a_pool_here).1, ((((a_pool_here).2 * 48271) + 11) % 2147483647)))))
def m_law_all_signs  : Option Str :=
 (some (" #-.0123456789:>ABCDEFGHIJKLMNOPQRSTUVWXYZabcdefghijklmnopqrstuvwxyz" : Str))
def m_law_text_b1 (t1 : (Int × (Int × Int))) (x28 : Int) (s30 : ((Int × Int) × Str)) : Option ((Int × Int) × Str) :=
 (if (decide (t1.1 = 0)) = true then ((m_law_all_signs).bind fun t43 => (m_law_take (s30.1) (68)).bind fun t51 => (ixS t43 t51.1).bind fun t61 => gd (catOk s30.2 t61) <| some (t51.2, (s30.2 ++ t61))) else ((m_law_take (s30.1) (4)).bind fun t64 => (ixS ("a1-b" : Str) t64.1).bind fun t74 => gd (catOk s30.2 t74) <| some (t64.2, (s30.2 ++ t74))))
def m_law_text (a_pool_here : (Int × Int)) : Option (Str × (Int × Int)) :=
 ((m_law_take (a_pool_here) (3)).bind fun t1 => (m_law_take (t1.2) (2)).bind fun t11 => gd (rgOk 0 (1 + t11.1)) <| (loopS (m_law_text_b1 t1) (rng 0 (1 + t11.1)) (t11.2, ("" : Str))).bind fun t22 => some (t22.2, t22.1))
def m_law_parts_b1  (x28 : Int) (s30 : ((Int × Int) × (List Str))) : Option ((Int × Int) × (List Str)) :=
 ((m_law_take (s30.1) (5)).bind fun t47 => gd (shp (dL dS) s30.2) <| gd (shp (dL dS) ([] : List Str)) <| (if (!decide (s30.2 = ([] : List Str))) = true then ((atI s30.2 (-1)).bind fun t81 => some ((!decide (t81 ∈ [("<any>" : Str), ("<digits>" : Str), ("<word>" : Str)])))) else some (false)).bind fun t75 => if ((decide (t47.1 = 0)) && (!decide (("<any>" : Str) ∈ s30.2))) = true then (gd (fits s30.2) <| some (t47.2, (s30.2 ++ [("<any>" : Str)]))) else (if (decide (t47.1 = 1)) = true then (gd (fits s30.2) <| some (t47.2, (s30.2 ++ [("<digits>" : Str)]))) else (if ((decide (t47.1 = 2)) || t75) = true then (gd (fits s30.2) <| some (t47.2, (s30.2 ++ [("<word>" : Str)]))) else ((m_law_text (t47.2)).bind fun t118 => gd (fits s30.2) <| some (t118.2, (s30.2 ++ [t118.1]))))))
def m_law_parts (a_pool_here : (Int × Int)) : Option ((List Str) × (Int × Int)) :=
 ((m_law_take (a_pool_here) (3)).bind fun t10 => gd (rgOk 0 (1 + t10.1)) <| (loopS m_law_parts_b1 (rng 0 (1 + t10.1)) (t10.2, ([] : List Str))).bind fun t21 => some (t21.2, t21.1))
def m_law_tree (a_pool_here : (Int × Int)) : Option (τ4ₓ × (Int × Int)) :=
 ((m_law_take (a_pool_here) (8)).bind fun t1 => if (decide (t1.1 = 0)) = true then ((m_law_parts (t1.2)).bind fun t12 => (m_law_parts (t12.2)).bind fun t22 => some ((("|" : Str), t12.1, t22.1), t22.2)) else (if (decide (t1.1 = 1)) = true then ((m_law_text (t1.2)).bind fun t39 => (m_law_text (t39.2)).bind fun t55 => some ((("&" : Str), [t39.1, ("<any>" : Str)], [("<any>" : Str), t55.1]), t55.2)) else (if (decide (t1.1 = 2)) = true then ((m_law_parts (t1.2)).bind fun t78 => some ((("&" : Str), t78.1, [("<any>" : Str)]), t78.2)) else ((m_law_parts (t1.2)).bind fun t100 => some ((("=" : Str), t100.1, ([] : List Str)), t100.2)))))
def m_law_rule_b1  (x17 : Int) (s19 : (Int × Int)) : Option (Option τ4ₓ × (Int × Int)) :=
 ((m_law_tree (s19)).bind fun t37 => some (some t37.1, (t37.2)))
def m_law_rule_b2  (x82 : Int) (s84 : (Int × Int)) : Option (Option τ4ₓ × (Int × Int)) :=
 ((m_law_tree (s84)).bind fun t102 => some (some t102.1, (t102.2)))
def m_law_rule (a_pool_here : (Int × Int)) : Option (τ1ₓ × (Int × Int)) :=
 ((m_law_take (a_pool_here) (4)).bind fun t1 => gd (rgOk 0 t1.1) <| gd (fitsE (rng 0 t1.1)) <| (comp m_law_rule_b1 (rng 0 t1.1) (t1.2)).bind fun t13 => (m_law_take (t13.2) (3)).bind fun t66 => gd (rgOk 0 t66.1) <| gd (fitsE (rng 0 t66.1)) <| (comp m_law_rule_b2 (rng 0 t66.1) (t66.2)).bind fun t78 => (m_law_take (t78.2) (4)).bind fun t131 => (m_law_take (t131.2) (20)).bind fun t141 => (m_law_take (t141.2) (3)).bind fun t160 => (atI [none, (some (1 + t131.1)), (some (1 + t141.1))] t160.1).bind fun t170 => (m_law_take (t160.2) (3)).bind fun t174 => (m_law_take (t174.2) (10)).bind fun t184 => (m_law_take (t184.2) (3)).bind fun t203 => (atI [none, (some t174.1), (some t184.1)] t203.1).bind fun t213 => (m_law_take (t203.2) (3)).bind fun t217 => (m_law_take (t217.2) (2)).bind fun t227 => some ((t13.1, t78.1, t170, (decide (0 < t217.1)), t213, (decide (t227.1 = 1))), t227.2))
def m_is_allowed_rules (a_field : Str) (a_value : Th) : Option Bool :=
 (if (decide (a_field ∈ [("alone" : Str), ("quiet" : Str)])) = true then (some ((thIsB a_value true) || (thIsB a_value false))) else (if (thNon a_value) = true then (some true) else (if ((!(thIs "int" a_value)) || (thIs "bool" a_value)) = true then (some false) else (if (decide (a_field = ("most" : Str))) = true then ((thI a_value).bind fun t11 => some (decide (1 ≤ t11) && decide (t11 ≤ 20))) else ((thI a_value).bind fun t14 => some (decide (0 ≤ t14) && decide (t14 ≤ 9)))))))
def m_check_settings_b1 (a_settings : (List (Str × Th))) (x11 : Str) (s13 : Unit) : Option Unit :=
 ((if ((getSd x11 a_settings).isSome) = true then ((getSd x11 a_settings).bind fun t42 => (m_is_allowed_rules (x11) (t42)).bind fun t46 => some ((!t46))) else some (false)).bind fun t36 => if t36 = true then (none) else (some ()))
def m_check_settings (a_settings : (List (Str × Th))) : Option Unit :=
 ((loopS (m_check_settings_b1 a_settings) (["most", "alone", "tags", "quiet"] : List Str) ()).bind fun t6 => some ())
def m_Rule___init__ (a_begins : (List Pat)) (a_ends : (List Pat)) (a_most : Th) (a_alone : Th) (a_tags : Th) (a_quiet : Th) : Option τ5ₓ :=
 (if (decide (6 < (((a_begins).length : Int) + ((a_ends).length : Int)))) = true then (none) else ((m_check_settings ([(("most" : Str), a_most), (("alone" : Str), a_alone), (("tags" : Str), a_tags), (("quiet" : Str), a_quiet)])).bind fun t20 => some (a_begins, a_ends, [(("most" : Str), a_most), (("alone" : Str), a_alone), (("tags" : Str), a_tags), (("quiet" : Str), a_quiet)])))
def m_Rule___init___vx (a_begins : (List Pat)) (a_ends : (List Pat)) (a_most : Th) (a_alone : Th) (a_tags : Th) (a_quiet : Th) : Option (Except Str τ5ₓ) :=
 (if (decide (6 < (((a_begins).length : Int) + ((a_ends).length : Int)))) = true then (some (.error (("marks" : Str)))) else ((m_check_settings ([(("most" : Str), a_most), (("alone" : Str), a_alone), (("tags" : Str), a_tags), (("quiet" : Str), a_quiet)])).bind fun t20 => some (.ok (a_begins, a_ends, [(("most" : Str), a_most), (("alone" : Str), a_alone), (("tags" : Str), a_tags), (("quiet" : Str), a_quiet)]))))
def m_Form___str__ (a_self : (List Str)) : Option Str :=
 (gd (joinOk ("" : Str) a_self) <| some (Txt.join ("" : Str) a_self))
def m_are_among_b1  (x10 : Pat) (s12 : Unit) : Option (Option Str × Unit) :=
 ((m_pat___str__ (x10)).bind fun t29 => some (some t29, ()))
def m_are_among_b2 (t6 : (List Str × Unit)) (x63 : Pat) (s65 : Unit) : Option (Option Bool × Unit) :=
 ((m_pat___str__ (x63)).bind fun t82 => some (some (decide (t82 ∈ t6.1)), ()))
def m_are_among (a_marks : (List Pat)) (a_others : (List Pat)) : Option Bool :=
 (gd (fitsE a_others) <| (comp m_are_among_b1 a_others ()).bind fun t6 => gd (fitsE a_marks) <| (comp (m_are_among_b2 t6) a_marks ()).bind fun t59 => some (t59.1.all id))
def m_Rule_is_part_of (a_self : τ3ₓ) (a_other : τ3ₓ) : Option Bool :=
 ((sdq a_self.2.2 a_other.2.2).bind fun t5 => if (!t5) = true then (some false) else ((m_are_among (a_self.1) (a_other.1)).bind fun t12 => (if t12 = true then ((m_are_among (a_self.2.1) (a_other.2.1)).bind fun t42 => some (t42)) else some (false)).bind fun t32 => some t32))
def m_Rule___eq__ (a_self : τ3ₓ) (a_other : τ3ₓ) : Option Bool :=
 ((m_Rule_is_part_of (a_self) (a_other)).bind fun t1 => (if t1 = true then ((m_Rule_is_part_of (a_other) (a_self)).bind fun t23 => some (t23)) else some (false)).bind fun t17 => some t17)
def m_Rule___eq___vi (a_self : τ3ₓ) (a_other : Int) : Option Bool :=
 (some false)
def m_Rule___eq___vp (a_self : τ3ₓ) (a_other : Pat) : Option Bool :=
 (some false)
def m_Form_forms (a_self : (List Str)) : Option (List (List Str)) :=
 (some [a_self])
def m_Either___init__ (a_one : Pat) (a_other : Pat) : Option (Pat × Pat) :=
 ((m_pat_forms (a_one)).bind fun t1 => (m_pat_forms (a_other)).bind fun t9 => if (decide ((3) < (((t1).length : Int) + ((t9).length : Int)))) = true then (none) else (some (a_one, a_other)))
def m_Pattern___or__ (a_self : Pat) (a_other : Pat) : Option Pat :=
 ((m_Either___init__ (a_self) (a_other)).bind fun t1 => some (Pat.either (t1).1 (t1).2))
def m_Both___init__ (a_one : Pat) (a_other : Pat) : Option (Pat × Pat) :=
 ((m_pat_forms (a_one)).bind fun t1 => (m_pat_forms (a_other)).bind fun t9 => if (decide ((3) < (((t1).length : Int) + ((t9).length : Int)))) = true then (none) else (some (a_one, a_other)))
def m_Pattern___and__ (a_self : Pat) (a_other : Pat) : Option Pat :=
 ((m_Both___init__ (a_self) (a_other)).bind fun t1 => some (Pat.both (t1).1 (t1).2))
def m_is_line_b1  (x28 : Str) (s30 : Unit) : Option (Ctl Unit Bool) :=
 (if (!inS x28 (" #-.0123456789:>ABCDEFGHIJKLMNOPQRSTUVWXYZabcdefghijklmnopqrstuvwxyz" : Str)) = true then (some (.rt false)) else (some (.nx ())))
def m_is_line (a_thing : Th) : Option Bool :=
 ((if (!(thIs "str" a_thing)) = true then some (true) else ((thS a_thing).bind fun t10 => some ((decide (t10 = ("" : Str)))))).bind fun t4 => if t4 = true then (some false) else ((thS a_thing).bind fun t20 => (loopC m_is_line_b1 (sgns t20) ()).bind fun t23 => aft t23 fun s46 => some true))
def m_is_allowed (a_parts : (List Str)) (a_at : Int) : Option Bool :=
 ((atI a_parts a_at).bind fun t1 => if ((decide ((4) ≤ a_at)) || false) = true then (some false) else (if (decide (t1 = ("<any>" : Str))) = true then (some (!decide (("<any>" : Str) ∈ (cut a_parts none (some a_at))))) else (if (decide (t1 ∈ (["<digits>", "<word>", "<any>"] : List Str))) = true then (some true) else ((if (decide (0 < a_at)) = true then ((atI a_parts (a_at - 1)).bind fun t26 => some ((!decide (t26 ∈ (["<digits>", "<word>", "<any>"] : List Str))))) else some (false)).bind fun t20 => if t20 = true then (some false) else ((m_is_line ((Th.d (PyData.str (t1))))).bind fun t39 => (if t39 = true then (gd (fitsS t1) <| some ((decide (((t1).length : Int) ≤ (4))))) else some (false)).bind fun t48 => some t48)))))
def m_Form___init___b1 (a_parts : (List Str)) (x8 : Int) (s10 : Unit) : Option Unit :=
 ((m_is_allowed (a_parts) (x8)).bind fun t21 => if (!t21) = true then (none) else (some ()))
def m_Form___init__ (a_parts : (List Str)) : Option (List Str) :=
 (if (decide (((a_parts).length : Int) = 0)) = true then (none) else (gd (rgOk 0 ((a_parts).length : Int)) <| (loopS (m_Form___init___b1 a_parts) (rng 0 ((a_parts).length : Int)) ()).bind fun t3 => some (a_parts)))
def m_law_form (a_parts_here : (List Str)) : Option (List Str) :=
 (if (decide (((a_parts_here).length : Int) = 1)) = true then ((atI a_parts_here 0).bind fun t2 => (m_Form___init__ [t2]).bind fun t6 => some t6) else (if (decide (((a_parts_here).length : Int) = 2)) = true then ((atI a_parts_here 0).bind fun t15 => (atI a_parts_here 1).bind fun t19 => (m_Form___init__ [t15, t19]).bind fun t23 => some t23) else ((atI a_parts_here 0).bind fun t31 => (atI a_parts_here 1).bind fun t35 => (atI a_parts_here 2).bind fun t39 => (m_Form___init__ [t31, t35, t39]).bind fun t43 => some t43)))
def m_law_built (a_tree_here : τ4ₓ) : Option Pat :=
 (if (decide ((a_tree_here).1 = ("=" : Str))) = true then ((m_law_form ((a_tree_here).2.1)).bind fun t6 => some (Pat.form t6)) else (if (decide ((a_tree_here).1 = ("&" : Str))) = true then ((m_law_form ((a_tree_here).2.1)).bind fun t20 => (m_law_form ((a_tree_here).2.2)).bind fun t30 => (m_Pattern___and__ ((Pat.form t20)) ((Pat.form t30))).bind fun t40 => some t40) else ((m_law_form ((a_tree_here).2.1)).bind fun t50 => (m_law_form ((a_tree_here).2.2)).bind fun t60 => (m_Pattern___or__ ((Pat.form t50)) ((Pat.form t60))).bind fun t70 => some t70)))
def m_law_marks_b1  (x10 : τ4ₓ) (s12 : Unit) : Option (Option Pat × Unit) :=
 ((m_law_built (x10)).bind fun t29 => some (some t29, ()))
def m_law_marks (a_trees : (List τ4ₓ)) : Option (List Pat) :=
 (gd (fitsE a_trees) <| (comp m_law_marks_b1 a_trees ()).bind fun t6 => some t6.1)
def m_law_ruled (a_rule_here : τ1ₓ) : Option τ3ₓ :=
 ((m_law_marks ((a_rule_here).1)).bind fun t3 => (m_law_marks ((a_rule_here).2.1)).bind fun t13 => (m_Rule___init__ (t3) (t13) ((thO (a_rule_here).2.2.1)) ((Th.d (PyData.bool ((a_rule_here).2.2.2.1)))) ((thO (a_rule_here).2.2.2.2.1)) ((Th.d (PyData.bool ((a_rule_here).2.2.2.2.2))))).bind fun t29 => some t29)
def m_law_name (a_tree_here : τ4ₓ) : Option Str :=
 (if (decide ((a_tree_here).1 = ("=" : Str))) = true then (gd (joinOk ("" : Str) (a_tree_here).2.1) <| some (Txt.join ("" : Str) (a_tree_here).2.1)) else (gd (joinOk ("" : Str) (a_tree_here).2.1) <| gd (catOk ("(" : Str) (Txt.join ("" : Str) (a_tree_here).2.1)) <| gd (catOk (("(" : Str) ++ (Txt.join ("" : Str) (a_tree_here).2.1)) (" " : Str)) <| gd (catOk ((("(" : Str) ++ (Txt.join ("" : Str) (a_tree_here).2.1)) ++ (" " : Str)) (a_tree_here).1) <| gd (catOk (((("(" : Str) ++ (Txt.join ("" : Str) (a_tree_here).2.1)) ++ (" " : Str)) ++ (a_tree_here).1) (" " : Str)) <| gd (joinOk ("" : Str) (a_tree_here).2.2) <| gd (catOk ((((("(" : Str) ++ (Txt.join ("" : Str) (a_tree_here).2.1)) ++ (" " : Str)) ++ (a_tree_here).1) ++ (" " : Str)) (Txt.join ("" : Str) (a_tree_here).2.2)) <| gd (catOk (((((("(" : Str) ++ (Txt.join ("" : Str) (a_tree_here).2.1)) ++ (" " : Str)) ++ (a_tree_here).1) ++ (" " : Str)) ++ (Txt.join ("" : Str) (a_tree_here).2.2)) (")" : Str)) <| some ((((((("(" : Str) ++ (Txt.join ("" : Str) (a_tree_here).2.1)) ++ (" " : Str)) ++ (a_tree_here).1) ++ (" " : Str)) ++ (Txt.join ("" : Str) (a_tree_here).2.2)) ++ (")" : Str))))
def m_law_among_b1  (x10 : τ4ₓ) (s12 : Unit) : Option (Option Str × Unit) :=
 ((m_law_name (x10)).bind fun t29 => some (some t29, ()))
def m_law_among_b2 (t6 : (List Str × Unit)) (x63 : τ4ₓ) (s65 : Unit) : Option (Option τ4ₓ × Unit) :=
 ((m_law_name (x63)).bind fun t82 => if (!decide (t82 ∈ t6.1)) = true then (some (some x63, ())) else some (none, ()))
def m_law_among (a_trees : (List τ4ₓ)) (a_others : (List τ4ₓ)) : Option Bool :=
 (gd (fitsE a_others) <| (comp m_law_among_b1 a_others ()).bind fun t6 => gd (fitsE a_trees) <| (comp (m_law_among_b2 t6) a_trees ()).bind fun t59 => gd (shp (dL (dLr (ec dS (ec (dL dS) (e1 (dL dS)))))) t59.1) <| gd (shp (dL (dLr (ec dS (ec (dL dS) (e1 (dL dS)))))) ([] : List τ4ₓ)) <| some (decide (t59.1 = ([] : List τ4ₓ))))
def m_law_part (a_rule_here : τ1ₓ) (a_other_here : τ1ₓ) : Option Bool :=
 (gd (shp (dLr (ec (dO dI) (ec dB (ec (dO dI) (e1 dB))))) (a_rule_here.2.2.1, a_rule_here.2.2.2.1, a_rule_here.2.2.2.2.1, a_rule_here.2.2.2.2.2)) <| gd (shp (dLr (ec (dO dI) (ec dB (ec (dO dI) (e1 dB))))) (a_other_here.2.2.1, a_other_here.2.2.2.1, a_other_here.2.2.2.2.1, a_other_here.2.2.2.2.2)) <| if (!decide ((a_rule_here.2.2.1, a_rule_here.2.2.2.1, a_rule_here.2.2.2.2.1, a_rule_here.2.2.2.2.2) = (a_other_here.2.2.1, a_other_here.2.2.2.1, a_other_here.2.2.2.2.1, a_other_here.2.2.2.2.2))) = true then (some false) else ((m_law_among ((a_rule_here).1) ((a_other_here).1)).bind fun t20 => (if t20 = true then ((m_law_among ((a_rule_here).2.1) ((a_other_here).2.1)).bind fun t50 => some (t50)) else some (false)).bind fun t40 => some t40))
def m_law_line_b1  (x11 : Str) (s13 : ((Int × Int) × Str)) : Option ((Int × Int) × Str) :=
 (if (decide (x11 = ("<digits>" : Str))) = true then ((m_law_take (s13.1) (10)).bind fun t26 => (ixS ("0123456789" : Str) t26.1).bind fun t36 => (m_law_take (t26.2) (2)).bind fun t38 => gd (repOk t36 (1 + t38.1)) <| gd (catOk s13.2 (repS t36 (1 + t38.1))) <| some (t38.2, (s13.2 ++ (repS t36 (1 + t38.1))))) else (if (decide (x11 = ("<word>" : Str))) = true then ((m_law_take (s13.1) (4)).bind fun t51 => (ixS ("aBzb" : Str) t51.1).bind fun t61 => (m_law_take (t51.2) (2)).bind fun t63 => gd (repOk t61 (1 + t63.1)) <| gd (catOk s13.2 (repS t61 (1 + t63.1))) <| some (t63.2, (s13.2 ++ (repS t61 (1 + t63.1))))) else (if (decide (x11 = ("<any>" : Str))) = true then ((m_law_text (s13.1)).bind fun t76 => (m_law_take (t76.2) (3)).bind fun t86 => gd (repOk t76.1 t86.1) <| gd (catOk s13.2 (repS t76.1 t86.1)) <| some (t86.2, (s13.2 ++ (repS t76.1 t86.1)))) else (gd (catOk s13.2 x11) <| some (s13.1, (s13.2 ++ x11))))))
def m_law_line (a_pool_here : (Int × Int)) (a_parts_here : (List Str)) : Option (Str × (Int × Int)) :=
 ((loopS m_law_line_b1 a_parts_here (a_pool_here, ("" : Str))).bind fun t5 => if (decide (t5.2 = ("" : Str))) = true then ((m_law_text (t5.1)).bind fun t108 => some (t108.1, t108.2)) else (some (t5.2, t5.1)))
def m_law_written (a_pool_here : (Int × Int)) (a_tree_here : τ4ₓ) : Option (Str × (Int × Int)) :=
 ((if (decide ((a_tree_here).1 = ("|" : Str))) = true then ((m_law_take (a_pool_here) (2)).bind fun t20 => some ((decide (t20.1 = 1)), t20.2)) else some (false, a_pool_here)).bind fun t13 => if t13.1 = true then ((m_law_line (t13.2) ((a_tree_here).2.2)).bind fun t42 => some (t42.1, t42.2)) else ((if (decide ((a_tree_here).1 = ("&" : Str))) = true then (some ((decide ((((a_tree_here).2.2).length : Int) = 2)))) else some (false)).bind fun t56 => if t56 = true then ((atI (a_tree_here).2.1 0).bind fun t73 => (m_law_text (t13.2)).bind fun t77 => (m_law_take (t77.2) (2)).bind fun t87 => gd (repOk t77.1 t87.1) <| gd (catOk t73 (repS t77.1 t87.1)) <| (atI (a_tree_here).2.2 1).bind fun t101 => gd (catOk (t73 ++ (repS t77.1 t87.1)) t101) <| some (((t73 ++ (repS t77.1 t87.1)) ++ t101), t87.2)) else ((m_law_line (t13.2) ((a_tree_here).2.1)).bind fun t108 => some (t108.1, t108.2))))
def m_law_row (a_pool_here : (Int × Int)) (a_rule_here : τ1ₓ) : Option (Str × (Int × Int)) :=
 (gd (fits2 (a_rule_here).1 (a_rule_here).2.1) <| (m_law_take (a_pool_here) ((((((a_rule_here).1 ++ (a_rule_here).2.1)).length : Int) + 2))).bind fun t12 => if (decide (t12.1 < ((((a_rule_here).1 ++ (a_rule_here).2.1)).length : Int))) = true then ((atI ((a_rule_here).1 ++ (a_rule_here).2.1) t12.1).bind fun t23 => (m_law_written (t12.2) (t23)).bind fun t27 => some (t27.1, t27.2)) else ((m_law_parts (t12.2)).bind fun t37 => (m_law_line (t37.2) (t37.1)).bind fun t47 => some (t47.1, t47.2)))
def m_Form_holds (a_self : (List Str)) (a_truths : (List Bool)) : Option Bool :=
 ((atI a_truths 0).bind fun t1 => some t1)
def m_cells_of_b1  (x23 : Str) (s25 : (List Str)) : Option (List Str) :=
 (if (decide (x23 ∈ (["<digits>", "<word>", "<any>"] : List Str))) = true then (gd (fits s25) <| some ((s25 ++ [x23]))) else (gd (fitsS x23) <| gd (fits2 s25 (sgns x23)) <| some ((s25 ++ (sgns x23)))))
def m_cells_of (a_parts : (List Str)) : Option (List Str) :=
 ((loopS m_cells_of_b1 a_parts (([] : List Str))).bind fun t17 => some t17)
def m_closed_b1 (a_cells : (List Str)) (a_positions : (List Int)) (x17 : Int) (s19 : (List Int)) : Option (List Int) :=
 ((if (decide (x17 ∈ a_positions)) = true then some (true) else ((if (decide (0 < x17)) = true then ((atI a_cells (x17 - 1)).bind fun t69 => some (((decide (t69 = ("<any>" : Str))) && (decide ((x17 - 1) ∈ s19))))) else some (false)).bind fun t63 => some (t63))).bind fun t53 => if t53 = true then (gd (fits s19) <| some ((s19 ++ [x17]))) else (some (s19)))
def m_closed (a_cells : (List Str)) (a_positions : (List Int)) : Option (List Int) :=
 (gd (rgOk 0 (((a_cells).length : Int) + 1)) <| (loopS (m_closed_b1 a_cells a_positions) (rng 0 (((a_cells).length : Int) + 1)) (([] : List Int))).bind fun t11 => some t11)
def m_started (a_cells : (List Str)) : Option (List Int) :=
 ((m_closed (a_cells) (([0] : List Int))).bind fun t8 => some t8)
def m_Form_parts (a_self : (List Str)) : Option (List Str) :=
 (some a_self)
def m_takes (a_cell : Str) (a_sign : Str) : Option Bool :=
 (if (decide (a_cell = ("<any>" : Str))) = true then (some true) else (if (decide (a_cell = ("<digits>" : Str))) = true then (some (inS a_sign ("0123456789" : Str))) else (if (decide (a_cell = ("<word>" : Str))) = true then (some (inS a_sign ("ABCDEFGHIJKLMNOPQRSTUVWXYZabcdefghijklmnopqrstuvwxyz" : Str))) else (some (decide (a_cell = a_sign))))))
def m_moved_b1 (a_cells : (List Str)) (a_sign : Str) (x23 : Int) (s25 : (List Int)) : Option (List Int) :=
 ((((if (decide (x23 < ((a_cells).length : Int))) = true then ((atI a_cells x23).bind fun t61 => (m_takes (t61) (a_sign)).bind fun t65 => some (t65)) else some (false)).bind fun t55 => if t55 = true then ((atI a_cells x23).bind fun t80 => (if (decide (t80 = ("<any>" : Str))) = true then (some (x23)) else (some ((x23 + 1)))).bind fun t84 => gd (fits s25) <| some ((s25 ++ [t84]))) else (some (s25)))).bind fun (t39 : (List Int)) => (if (decide (0 < x23)) = true then ((atI a_cells (x23 - 1)).bind fun t169 => (if (decide (t169 ∈ [("<digits>" : Str), ("<word>" : Str)])) = true then ((atI a_cells (x23 - 1)).bind fun t197 => (m_takes (t197) (a_sign)).bind fun t201 => some (t201)) else some (false)).bind fun t191 => some (t191)) else some (false)).bind fun t163 => if t163 = true then (gd (fits t39) <| some ((t39 ++ [x23]))) else (some (t39)))
def m_moved (a_cells : (List Str)) (a_positions : (List Int)) (a_sign : Str) : Option (List Int) :=
 ((loopS (m_moved_b1 a_cells a_sign) a_positions (([] : List Int))).bind fun t17 => (m_closed (a_cells) (t17)).bind fun t244 => some t244)
def m_is_done (a_cells : (List Str)) (a_positions : (List Int)) : Option Bool :=
 (some (decide (((a_cells).length : Int) ∈ a_positions)))
def m_pat___contains___b1 (t65 : (List Str)) (x86 : Str) (s88 : (List Int)) : Option (List Int) :=
 ((m_moved (t65) (s88) (x86)).bind fun t102 => some (t102))
def m_pat___contains___b2 (a_line : Str) (x37 : (List Str)) (s39 : (List Bool)) : Option (List Bool) :=
 ((m_Form_parts (x37)).bind fun t56 => (m_cells_of (t56)).bind fun t65 => (m_started (t65)).bind fun t73 => (loopS (m_pat___contains___b1 t65) (sgns a_line) (t73)).bind fun t81 => (m_is_done (t65) (t81)).bind fun t119 => gd (fits s39) <| some ((s39 ++ [t119])))
def m_pat___contains__ (a_self : Pat) (a_line : Str) : Option Bool :=
 ((m_is_line ((Th.d (PyData.str (a_line))))).bind fun t2 => if (!t2) = true then (some false) else ((m_pat_forms (a_self)).bind fun t19 => (loopS (m_pat___contains___b2 a_line) t19 (([] : List Bool))).bind fun t31 => (m_pat_holds (a_self) (t31)).bind fun t151 => some t151))
def m_Rule_begins_on_b1 (a_line : Str) (x12 : Pat) (s14 : Unit) : Option (Option Bool × Unit) :=
 ((m_pat___contains__ (x12) (a_line)).bind fun t31 => some (some t31, ()))
def m_Rule_begins_on (a_self : τ3ₓ) (a_line : Str) : Option Bool :=
 (gd (fitsE a_self.1) <| (comp (m_Rule_begins_on_b1 a_line) a_self.1 ()).bind fun t8 => some (t8.1.any id))
def m_law_ends_b1 (a_line_here : Str) (t30 : Str)  (s45 : ((List Int) × Int)) : Option (Bool × ((List Int) × Int)) :=
 (gd (fitsS a_line_here) <| (if (decide (s45.2 < ((a_line_here).length : Int))) = true then ((ixS a_line_here s45.2).bind fun t68 => some ((inS t68 t30))) else some (false)).bind fun t62 => some (t62, (s45.1, s45.2)))
def m_law_ends_b2   (s77 : ((List Int) × Int)) : Option ((List Int) × Int) :=
 (gd (fits s77.1) <| some ((s77.1 ++ [(s77.2 + 1)]), (s77.2 + 1)))
def m_law_ends (a_part_here : Str) (a_line_here : Str) (a_at : Int) : Option (List Int) :=
 (if (decide (a_part_here = ("<any>" : Str))) = true then (gd (fitsS a_line_here) <| gd (rgFit a_at (((a_line_here).length : Int) + 1)) <| some (rng a_at (((a_line_here).length : Int) + 1))) else (((if (decide (a_part_here ∈ [("<digits>" : Str), ("<word>" : Str)])) = true then (((if (decide (a_part_here = ("<word>" : Str))) = true then (some (("ABCDEFGHIJKLMNOPQRSTUVWXYZabcdefghijklmnopqrstuvwxyz" : Str))) else (some (("0123456789" : Str))))).bind fun (t30 : Str) => (whileS (m_law_ends_b1 a_line_here t30) m_law_ends_b2 fuel (([] : List Int), a_at)).bind fun t40 => some (t40.1)) else (gd (fitsS a_part_here) <| gd (fitsS a_line_here) <| if (decide ((cutS a_line_here (some a_at) (some (a_at + ((a_part_here).length : Int)))) = a_part_here)) = true then (gd (fitsS a_part_here) <| gd (fits ([] : List Int)) <| some ((([] : List Int) ++ [(a_at + ((a_part_here).length : Int))]))) else (some (([] : List Int)))))).bind fun (t19 : (List Int)) => some t19))
def m_law_fits_b1 (s51 : (List Int)) (x82 : Int) (s84 : Unit) : Option (Option Int × Unit) :=
 (if (!decide (x82 ∈ s51)) = true then (some (some x82, ())) else some (none, ()))
def m_law_fits_b2 (a_line_here : Str) (x16 : Str) (x49 : Int) (s51 : (List Int)) : Option (List Int) :=
 ((m_law_ends (x16) (a_line_here) (x49)).bind fun t65 => gd (fitsE t65) <| (comp (m_law_fits_b1 s51) t65 ()).bind fun t78 => gd (fits2 s51 t78.1) <| some ((s51 ++ t78.1)))
def m_law_fits_b3 (a_line_here : Str) (x16 : Str) (s18 : (List Int)) : Option (List Int) :=
 ((loopS (m_law_fits_b2 a_line_here x16) s18 (([] : List Int))).bind fun t44 => some (t44))
def m_law_fits (a_parts_here : (List Str)) (a_line_here : Str) : Option Bool :=
 ((loopS (m_law_fits_b3 a_line_here) a_parts_here (([0] : List Int))).bind fun t11 => (if (!decide (a_line_here = ("" : Str))) = true then (gd (fitsS a_line_here) <| some ((decide (((a_line_here).length : Int) ∈ t11)))) else some (false)).bind fun t147 => some t147)
def m_law_bears (a_tree_here : τ4ₓ) (a_line_here : Str) : Option Bool :=
 (if (decide ((a_tree_here).1 = ("=" : Str))) = true then ((m_law_fits ((a_tree_here).2.1) (a_line_here)).bind fun t6 => some t6) else (if (decide ((a_tree_here).1 = ("&" : Str))) = true then ((m_law_fits ((a_tree_here).2.1) (a_line_here)).bind fun t19 => (if t19 = true then ((m_law_fits ((a_tree_here).2.2) (a_line_here)).bind fun t45 => some (t45)) else some (false)).bind fun t37 => some t37) else ((m_law_fits ((a_tree_here).2.1) (a_line_here)).bind fun t61 => (if t61 = true then some (true) else ((m_law_fits ((a_tree_here).2.2) (a_line_here)).bind fun t87 => some (t87))).bind fun t79 => some t79)))
def m_law_marked_b1 (a_line_here : Str) (x10 : τ4ₓ) (s12 : Unit) : Option (Option τ4ₓ × Unit) :=
 ((m_law_bears (x10) (a_line_here)).bind fun t29 => if t29 = true then (some (some x10, ())) else some (none, ()))
def m_law_marked (a_trees : (List τ4ₓ)) (a_line_here : Str) : Option Bool :=
 (gd (fitsE a_trees) <| (comp (m_law_marked_b1 a_line_here) a_trees ()).bind fun t6 => gd (shp (dL (dLr (ec dS (ec (dL dS) (e1 (dL dS)))))) t6.1) <| gd (shp (dL (dLr (ec dS (ec (dL dS) (e1 (dL dS)))))) ([] : List τ4ₓ)) <| some (!decide (t6.1 = ([] : List τ4ₓ))))
def m_Rule_ends_on_b1 (a_line : Str) (x12 : Pat) (s14 : Unit) : Option (Option Bool × Unit) :=
 ((m_pat___contains__ (x12) (a_line)).bind fun t31 => some (some t31, ()))
def m_Rule_ends_on (a_self : τ3ₓ) (a_line : Str) : Option Bool :=
 (gd (fitsE a_self.2.1) <| (comp (m_Rule_ends_on_b1 a_line) a_self.2.1 ()).bind fun t8 => some (t8.1.any id))
def m_law_lines_b1 (a_made_rule : τ3ₓ) (a_rule_here : τ1ₓ) (x8 : Int) (s10 : (Int × Int)) : Option (Ctl (Int × Int) (Bool × (Int × Int))) :=
 ((m_law_row (s10) (a_rule_here)).bind fun t23 => (m_Rule_begins_on (a_made_rule) (t23.1)).bind fun t33 => (m_law_marked ((a_rule_here).1) (t23.1)).bind fun t43 => if (!decide (t33 = t43)) = true then (some (.rt (false, t23.2))) else ((m_Rule_ends_on (a_made_rule) (t23.1)).bind fun t55 => (m_law_marked ((a_rule_here).2.1) (t23.1)).bind fun t65 => if (!decide (t55 = t65)) = true then (some (.rt (false, t23.2))) else (some (.nx (t23.2)))))
def m_law_lines (a_pool_here : (Int × Int)) (a_made_rule : τ3ₓ) (a_rule_here : τ1ₓ) : Option (Bool × (Int × Int)) :=
 (gd (rgOk 0 5) <| (loopC (m_law_lines_b1 a_made_rule a_rule_here) (rng 0 5) (a_pool_here)).bind fun t2 => aft t2 fun s79 => some (true, s79))
def m_law_right (a_pool_here : (Int × Int)) (a_rule_here : τ1ₓ) (a_other_here : τ1ₓ) : Option (Bool × (Int × Int)) :=
 ((m_law_ruled (a_rule_here)).bind fun t1 => (m_law_ruled (a_other_here)).bind fun t9 => (m_law_part (a_rule_here) (a_other_here)).bind fun t17 => (m_law_part (a_other_here) (a_rule_here)).bind fun t25 => (m_Rule_is_part_of (t1) (t9)).bind fun t39 => (m_Rule_is_part_of (t9) (t1)).bind fun t47 => gd (shp (dL dB) [t39, t47]) <| gd (shp (dL dB) [t17, t25]) <| if (!decide ([t39, t47] = [t17, t25])) = true then (some (false, a_pool_here)) else ((m_Rule___eq__ (t1) (t9)).bind fun t64 => gd (shp (dL dB) [t17, t25]) <| gd (shp (dL dB) [true, true]) <| (if (!decide (t64 = (decide ([t17, t25] = [true, true])))) = true then some (true) else ((m_Rule___eq___vi (t1) (0)).bind fun t140 => (if t140 = true then some (true) else ((m_Form___init__ [("a" : Str)]).bind fun t171 => (m_Rule___eq___vp (t1) ((Pat.form t171))).bind fun t180 => some (t180))).bind fun t165 => some (t165))).bind fun t134 => if t134 = true then (some (false, a_pool_here)) else ((m_law_lines (a_pool_here) (t1) (a_rule_here)).bind fun t201 => (if t201.1 = true then ((m_law_lines (t201.2) (t9) (a_other_here)).bind fun t228 => some (t228.1, t228.2)) else some (false, t201.2)).bind fun t221 => some (t221.1, t221.2))))
def m_Rule_by_first (a_patterns : (List Pat)) : Option τ3ₓ :=
 ((m_Rule___init__ (a_patterns) (([] : List Pat)) ((Th.d .none)) ((Th.d (.bool true))) ((Th.d .none)) ((Th.d (.bool false)))).bind fun t13 => some t13)
def m_Rule_by_first_vx (a_patterns : (List Pat)) : Option (Except Str τ3ₓ) :=
 ((m_Rule___init___vx (a_patterns) (([] : List Pat)) ((Th.d .none)) ((Th.d (.bool true))) ((Th.d .none)) ((Th.d (.bool false)))).bind fun t13 => exB t13 fun t15 => some (.ok t15))
def m_Rule_by_last (a_patterns : (List Pat)) : Option τ3ₓ :=
 ((m_Rule___init__ (([] : List Pat)) (a_patterns) ((Th.d .none)) ((Th.d (.bool true))) ((Th.d .none)) ((Th.d (.bool false)))).bind fun t13 => some t13)
def m_Rule_by_last_vx (a_patterns : (List Pat)) : Option (Except Str τ3ₓ) :=
 ((m_Rule___init___vx (([] : List Pat)) (a_patterns) ((Th.d .none)) ((Th.d (.bool true))) ((Th.d .none)) ((Th.d (.bool false)))).bind fun t13 => exB t13 fun t15 => some (.ok t15))
def m_Rule_every_line  : Option τ3ₓ :=
 ((m_Form___init__ [("<any>" : Str)]).bind fun t1 => (m_Rule___init__ ([(Pat.form t1)]) (([] : List Pat)) ((Th.d .none)) ((Th.d (.bool true))) ((Th.d .none)) ((Th.d (.bool false)))).bind fun t22 => some t22)
def m_Rule_quiet (a_self : τ3ₓ) : Option Bool :=
 ((getSd ("quiet" : Str) a_self.2.2).bind fun t3 => (thB t3).bind fun t7 => some t7)
def m_law_too_many (a_one : Pat) (a_first : Bool) : Option Bool :=
 (if a_first = true then ((m_Rule_by_first_vx ([a_one, a_one, a_one, a_one, a_one, a_one, a_one])).bind fun t8 => exT t8 (fun (x17 : Str) => (some (decide (x17 = ("marks" : Str))))) fun t10 => some false) else ((m_Rule_by_last_vx ([a_one, a_one, a_one, a_one, a_one, a_one, a_one])).bind fun t37 => exT t37 (fun (x46 : Str) => (some (decide (x46 = ("marks" : Str))))) fun t39 => some false))
def m_Rule_begins (a_self : τ3ₓ) : Option (List Pat) :=
 (some a_self.1)
def m_law_texts_b1  (x10 : Pat) (s12 : Unit) : Option (Option Str × Unit) :=
 ((m_pat___str__ (x10)).bind fun t29 => some (some t29, ()))
def m_law_texts (a_marks_here : (List Pat)) : Option (List Str) :=
 (gd (fitsE a_marks_here) <| (comp m_law_texts_b1 a_marks_here ()).bind fun t6 => some t6.1)
def m_Rule_ends (a_self : τ3ₓ) : Option (List Pat) :=
 (some a_self.2.1)
def m_Rule_most (a_self : τ3ₓ) : Option (Option Int) :=
 ((getSd ("most" : Str) a_self.2.2).bind fun t3 => (thOI t3).bind fun t7 => some t7)
def m_Rule_tags (a_self : τ3ₓ) : Option (Option Int) :=
 ((getSd ("tags" : Str) a_self.2.2).bind fun t3 => (thOI t3).bind fun t7 => some t7)
def m_Rule_alone (a_self : τ3ₓ) : Option Bool :=
 ((getSd ("alone" : Str) a_self.2.2).bind fun t3 => (thB t3).bind fun t7 => some t7)
def m_law_statics_b1  (x533 : τ3ₓ) (s535 : Unit) : Option (Ctl Unit Bool) :=
 ((m_Rule_most (x533)).bind fun t546 => (if (!(t546).isNone) = true then some (true) else ((m_Rule_tags (x533)).bind fun t652 => (if (!(t652).isNone) = true then some (true) else ((m_Rule_alone (x533)).bind fun t702 => (if (!t702) = true then some (true) else ((m_Rule_quiet (x533)).bind fun t724 => some (t724))).bind fun t718 => some (t718))).bind fun t696 => some (t696))).bind fun t646 => if t646 = true then (some (.rt false)) else (some (.nx ())))
def m_law_statics (a_one : Pat) (a_two : Pat) : Option Bool :=
 ((m_law_too_many (a_one) (true)).bind fun t1 => (if (!t1) = true then some (true) else ((m_law_too_many (a_two) (false)).bind fun t23 => some ((!t23)))).bind fun t17 => if t17 = true then (some false) else ((m_Rule_by_first ([a_one, a_two, a_one, a_two, a_one, a_two])).bind fun t44 => (m_Rule_begins (t44)).bind fun t52 => if (!decide (((t52).length : Int) = 6)) = true then (some false) else ((m_Rule_by_first ([a_one, a_two])).bind fun t67 => (m_Rule_by_last ([a_two])).bind fun t81 => (m_Rule_every_line).bind fun t89 => (m_Rule_begins (t67)).bind fun t97 => (m_law_texts (t97)).bind fun t105 => (m_law_texts ([a_one, a_two])).bind fun t119 => gd (shp (dL dS) t105) <| gd (shp (dL dS) t119) <| (if (!decide (t105 = t119)) = true then some (true) else ((m_Rule_ends (t67)).bind fun t149 => some ((!(t149).isEmpty)))).bind fun t143 => if t143 = true then (some false) else ((m_Rule_begins (t81)).bind fun t170 => (if (!(t170).isEmpty) = true then some (true) else ((m_Rule_ends (t81)).bind fun t222 => (m_law_texts (t222)).bind fun t230 => (m_law_texts ([a_two])).bind fun t244 => gd (shp (dL dS) t230) <| gd (shp (dL dS) t244) <| some ((!decide (t230 = t244))))).bind fun t216 => if t216 = true then (some false) else ((m_Rule_begins (t89)).bind fun t261 => (m_law_texts (t261)).bind fun t269 => gd (shp (dL dS) t269) <| gd (shp (dL dS) [("<any>" : Str)]) <| (if (!decide (t269 = [("<any>" : Str)])) = true then some (true) else ((m_Rule_ends (t89)).bind fun t401 => (if (!(t401).isEmpty) = true then some (true) else ((m_Rule_by_first (([] : List Pat))).bind fun t469 => (m_Rule___init__ (([] : List Pat)) (([] : List Pat)) ((Th.d .none)) ((Th.d (.bool true))) ((Th.d .none)) ((Th.d (.bool false)))).bind fun t489 => (m_Rule___eq__ (t469) (t489)).bind fun t497 => some ((!t497)))).bind fun t457 => some (t457))).bind fun t395 => if t395 = true then (some false) else ((loopC m_law_statics_b1 [t67, t81, t89] ()).bind fun t528 => aft t528 fun s755 => some true))))))
def m_law_mixed_b1  (x21 : τ4ₓ) (s23 : ((Int × Int) × (List τ4ₓ))) : Option ((Int × Int) × (List τ4ₓ)) :=
 ((((m_law_take (s23.1) (5)).bind fun t43 => if (decide (0 < t43.1)) = true then ((m_law_take (t43.2) ((((s23.2).length : Int) + 1))).bind fun t54 => gd (insOk s23.2 t54.1) <| some (t54.2, (insI s23.2 t54.1 x21))) else (some (t43.2, s23.2)))).bind fun (t38 : ((Int × Int) × (List τ4ₓ))) => (m_law_take (t38.1) (6)).bind fun t82 => if ((decide (t82.1 = 0)) && (decide (((t38.2).length : Int) < 3))) = true then (gd (fits t38.2) <| some (t82.2, (t38.2 ++ [x21]))) else (some (t82.2, t38.2)))
def m_law_mixed (a_pool_here : (Int × Int)) (a_trees : (List τ4ₓ)) : Option ((List τ4ₓ) × (Int × Int)) :=
 ((loopS m_law_mixed_b1 a_trees (a_pool_here, ([] : List τ4ₓ))).bind fun t14 => (((m_law_take (t14.1) (4)).bind fun t116 => if ((decide (t116.1 = 0)) && (decide (((t14.2).length : Int) < 3))) = true then ((m_law_tree (t116.2)).bind fun t127 => gd (fits t14.2) <| some (t127.2, (t14.2 ++ [t127.1]))) else (some (t116.2, t14.2)))).bind fun (t111 : ((Int × Int) × (List τ4ₓ))) => some ((cut t111.2 none (some 3)), t111.1))
def m_law_other (a_pool_here : (Int × Int)) (a_rule_here : τ1ₓ) : Option (τ1ₓ × (Int × Int)) :=
 ((m_law_mixed (a_pool_here) ((a_rule_here).1)).bind fun t3 => (m_law_mixed (t3.2) ((a_rule_here).2.1)).bind fun t15 => (m_law_take (t15.2) (2)).bind fun t63 => if (decide (t63.1 = 0)) = true then ((m_law_take (t63.2) (5)).bind fun t135 => if (decide (t135.1 = 0)) = true then ((m_law_take (t135.2) (4)).bind fun t146 => if (decide ((2 + t146.1) = 2)) = true then ((m_law_rule (t146.2)).bind fun t158 => some (((((a_rule_here).1).reverse, (a_rule_here).2.1).1, (((a_rule_here).1).reverse, (a_rule_here).2.1).2, (t158.1).2.2.1, (a_rule_here.2.2.1, a_rule_here.2.2.2.1, a_rule_here.2.2.2.2.1, a_rule_here.2.2.2.2.2).2.1, (a_rule_here.2.2.1, a_rule_here.2.2.2.1, a_rule_here.2.2.2.2.1, a_rule_here.2.2.2.2.2).2.2.1, (a_rule_here.2.2.1, a_rule_here.2.2.2.1, a_rule_here.2.2.2.2.1, a_rule_here.2.2.2.2.2).2.2.2), t158.2)) else (if (decide ((2 + t146.1) = 3)) = true then ((m_law_rule (t146.2)).bind fun t181 => some (((((a_rule_here).1).reverse, (a_rule_here).2.1).1, (((a_rule_here).1).reverse, (a_rule_here).2.1).2, (a_rule_here.2.2.1, a_rule_here.2.2.2.1, a_rule_here.2.2.2.2.1, a_rule_here.2.2.2.2.2).1, (t181.1).2.2.2.1, (a_rule_here.2.2.1, a_rule_here.2.2.2.1, a_rule_here.2.2.2.2.1, a_rule_here.2.2.2.2.2).2.2.1, (a_rule_here.2.2.1, a_rule_here.2.2.2.1, a_rule_here.2.2.2.2.1, a_rule_here.2.2.2.2.2).2.2.2), t181.2)) else (if (decide ((2 + t146.1) = 4)) = true then ((m_law_rule (t146.2)).bind fun t204 => some (((((a_rule_here).1).reverse, (a_rule_here).2.1).1, (((a_rule_here).1).reverse, (a_rule_here).2.1).2, (a_rule_here.2.2.1, a_rule_here.2.2.2.1, a_rule_here.2.2.2.2.1, a_rule_here.2.2.2.2.2).1, (a_rule_here.2.2.1, a_rule_here.2.2.2.1, a_rule_here.2.2.2.2.1, a_rule_here.2.2.2.2.2).2.1, (t204.1).2.2.2.2.1, (a_rule_here.2.2.1, a_rule_here.2.2.2.1, a_rule_here.2.2.2.2.1, a_rule_here.2.2.2.2.2).2.2.2), t204.2)) else (if (decide ((2 + t146.1) = 5)) = true then ((m_law_rule (t146.2)).bind fun t227 => some (((((a_rule_here).1).reverse, (a_rule_here).2.1).1, (((a_rule_here).1).reverse, (a_rule_here).2.1).2, (a_rule_here.2.2.1, a_rule_here.2.2.2.1, a_rule_here.2.2.2.2.1, a_rule_here.2.2.2.2.2).1, (a_rule_here.2.2.1, a_rule_here.2.2.2.1, a_rule_here.2.2.2.2.1, a_rule_here.2.2.2.2.2).2.1, (a_rule_here.2.2.1, a_rule_here.2.2.2.1, a_rule_here.2.2.2.2.1, a_rule_here.2.2.2.2.2).2.2.1, (t227.1).2.2.2.2.2), t227.2)) else none)))) else (some (((((a_rule_here).1).reverse, (a_rule_here).2.1).1, (((a_rule_here).1).reverse, (a_rule_here).2.1).2, (a_rule_here.2.2.1, a_rule_here.2.2.2.1, a_rule_here.2.2.2.2.1, a_rule_here.2.2.2.2.2).1, (a_rule_here.2.2.1, a_rule_here.2.2.2.1, a_rule_here.2.2.2.2.1, a_rule_here.2.2.2.2.2).2.1, (a_rule_here.2.2.1, a_rule_here.2.2.2.1, a_rule_here.2.2.2.2.1, a_rule_here.2.2.2.2.2).2.2.1, (a_rule_here.2.2.1, a_rule_here.2.2.2.1, a_rule_here.2.2.2.2.1, a_rule_here.2.2.2.2.2).2.2.2), t135.2))) else ((m_law_take (t63.2) (5)).bind fun t253 => if (decide (t253.1 = 0)) = true then ((m_law_take (t253.2) (4)).bind fun t264 => if (decide ((2 + t264.1) = 2)) = true then ((m_law_rule (t264.2)).bind fun t276 => some (((t3.1, t15.1).1, (t3.1, t15.1).2, (t276.1).2.2.1, (a_rule_here.2.2.1, a_rule_here.2.2.2.1, a_rule_here.2.2.2.2.1, a_rule_here.2.2.2.2.2).2.1, (a_rule_here.2.2.1, a_rule_here.2.2.2.1, a_rule_here.2.2.2.2.1, a_rule_here.2.2.2.2.2).2.2.1, (a_rule_here.2.2.1, a_rule_here.2.2.2.1, a_rule_here.2.2.2.2.1, a_rule_here.2.2.2.2.2).2.2.2), t276.2)) else (if (decide ((2 + t264.1) = 3)) = true then ((m_law_rule (t264.2)).bind fun t299 => some (((t3.1, t15.1).1, (t3.1, t15.1).2, (a_rule_here.2.2.1, a_rule_here.2.2.2.1, a_rule_here.2.2.2.2.1, a_rule_here.2.2.2.2.2).1, (t299.1).2.2.2.1, (a_rule_here.2.2.1, a_rule_here.2.2.2.1, a_rule_here.2.2.2.2.1, a_rule_here.2.2.2.2.2).2.2.1, (a_rule_here.2.2.1, a_rule_here.2.2.2.1, a_rule_here.2.2.2.2.1, a_rule_here.2.2.2.2.2).2.2.2), t299.2)) else (if (decide ((2 + t264.1) = 4)) = true then ((m_law_rule (t264.2)).bind fun t322 => some (((t3.1, t15.1).1, (t3.1, t15.1).2, (a_rule_here.2.2.1, a_rule_here.2.2.2.1, a_rule_here.2.2.2.2.1, a_rule_here.2.2.2.2.2).1, (a_rule_here.2.2.1, a_rule_here.2.2.2.1, a_rule_here.2.2.2.2.1, a_rule_here.2.2.2.2.2).2.1, (t322.1).2.2.2.2.1, (a_rule_here.2.2.1, a_rule_here.2.2.2.1, a_rule_here.2.2.2.2.1, a_rule_here.2.2.2.2.2).2.2.2), t322.2)) else (if (decide ((2 + t264.1) = 5)) = true then ((m_law_rule (t264.2)).bind fun t345 => some (((t3.1, t15.1).1, (t3.1, t15.1).2, (a_rule_here.2.2.1, a_rule_here.2.2.2.1, a_rule_here.2.2.2.2.1, a_rule_here.2.2.2.2.2).1, (a_rule_here.2.2.1, a_rule_here.2.2.2.1, a_rule_here.2.2.2.2.1, a_rule_here.2.2.2.2.2).2.1, (a_rule_here.2.2.1, a_rule_here.2.2.2.1, a_rule_here.2.2.2.2.1, a_rule_here.2.2.2.2.2).2.2.1, (t345.1).2.2.2.2.2), t345.2)) else none)))) else (some (((t3.1, t15.1).1, (t3.1, t15.1).2, (a_rule_here.2.2.1, a_rule_here.2.2.2.1, a_rule_here.2.2.2.2.1, a_rule_here.2.2.2.2.2).1, (a_rule_here.2.2.1, a_rule_here.2.2.2.1, a_rule_here.2.2.2.2.1, a_rule_here.2.2.2.2.2).2.1, (a_rule_here.2.2.1, a_rule_here.2.2.2.1, a_rule_here.2.2.2.2.1, a_rule_here.2.2.2.2.2).2.2.1, (a_rule_here.2.2.1, a_rule_here.2.2.2.1, a_rule_here.2.2.2.2.1, a_rule_here.2.2.2.2.2).2.2.2), t253.2))))
def m_law_b1 (a_script : (List Int)) (x7 : Int) (s9 : Unit) : Option (Ctl Unit Bool) :=
 ((m_law_pool (a_script) (x7)).bind fun t22 => (m_law_rule (t22)).bind fun t33 => (m_law_other (t33.2) (t33.1)).bind fun t43 => (m_law_right (t43.2) (t33.1) (t43.1)).bind fun t53 => if (!t53.1) = true then (some (.rt false)) else ((m_law_tree (t53.2)).bind fun t66 => (m_law_built (t66.1)).bind fun t76 => (m_law_tree (t66.2)).bind fun t84 => (m_law_built (t84.1)).bind fun t94 => (m_law_statics (t76) (t94)).bind fun t102 => if (!t102) = true then (some (.rt false)) else (some (.nx ()))))
def m_law (a_script : (List Int)) : Option Bool :=
 (gd (rgOk 0 (maxI 1 (minI 4 ((a_script).length : Int)))) <| (loopC (m_law_b1 a_script) (rng 0 (maxI 1 (minI 4 ((a_script).length : Int)))) ()).bind fun t2 => aft t2 fun s115 => some true)
theorem is_NoRule : PySem.OwnE.IS "NoRule.__init__" (defArgs si_NoRule) (defBody si_NoRule) (defScope si_NoRule) ["field"] where
 bd := ⟨_, _, _, _, _, _, _, _, _, rfl, .cons (.nil), fun _ _ _ _ => ⟨⟨_, rfl⟩, rfl, rfl⟩⟩
 bind := fun _ _ _ _ _ _ _ us hl => match us, hl with | [_, _], _ => rfl
 hd := ⟨_, rfl, rfl⟩
 nd := by decide +kernel
 loc := by decide +kernel
 cell := by decide +kernel
 co := rfl
 gen := rfl
 k := rfl
 hks := rfl
 hkc := rfl
 few := by decide
 some_ := by decide
structure Tx (P : Program) (K : PySem.W.Frag) (mg : Str → Option Value) : Prop where
 F_law_pool : FnD' K ("_law_pool", none) "_law_pool" "_law_pool" s_law_pool
 g_law_pool : mg "_law_pool" = some (.ref (He.ga K "_law_pool"))
 F_law_take : FnD' K ("_law_take", none) "_law_take" "_law_take" s_law_take
 g_law_take : mg "_law_take" = some (.ref (He.ga K "_law_take"))
 F_law_all_signs : FnD' K ("_law_all_signs", none) "_law_all_signs" "_law_all_signs" s_law_all_signs
 g_law_all_signs : mg "_law_all_signs" = some (.ref (He.ga K "_law_all_signs"))
 F_law_text : FnD' K ("_law_text", none) "_law_text" "_law_text" s_law_text
 g_law_text : mg "_law_text" = some (.ref (He.ga K "_law_text"))
 F_law_parts : FnD' K ("_law_parts", none) "_law_parts" "_law_parts" s_law_parts
 g_law_parts : mg "_law_parts" = some (.ref (He.ga K "_law_parts"))
 F_law_tree : FnD' K ("_law_tree", none) "_law_tree" "_law_tree" s_law_tree
 g_law_tree : mg "_law_tree" = some (.ref (He.ga K "_law_tree"))
 F_law_rule : FnD' K ("_law_rule", none) "_law_rule" "_law_rule" s_law_rule
 g_law_rule : mg "_law_rule" = some (.ref (He.ga K "_law_rule"))
 F_is_allowed_rules : FnD' K ("is_allowed_rules", none) "is_allowed" "is_allowed" s_is_allowed_rules
 g_is_allowed_rules : mg "is_allowed_rules" = some (.ref (He.ga K "is_allowed_rules"))
 F_check_settings : FnD' K ("check_settings", none) "check_settings" "check_settings" s_check_settings
 g_check_settings : mg "check_settings" = some (.ref (He.ga K "check_settings"))
 F_Rule___init__ : FunD K "__init__" "Rule.__init__" (defArgs s_Rule___init__) (defBody s_Rule___init__) (defScope s_Rule___init__) [] [("most", V.non), ("alone", V.bl true), ("tags", V.non), ("quiet", V.bl false)] (He.fAd K ("Rule", some "__init__")) (fdOf K ("Rule", some "__init__"))
 F_Form___str__ : FnD' K ("Form", some "__str__") "__str__" "Form.__str__" s_Form___str__
 F_Both___str__ : FnD' K ("Both", some "__str__") "__str__" "Both.__str__" s_Both___str__
 F_Either___str__ : FnD' K ("Either", some "__str__") "__str__" "Either.__str__" s_Either___str__
 F_are_among : FnD' K ("are_among", none) "are_among" "are_among" s_are_among
 g_are_among : mg "are_among" = some (.ref (He.ga K "are_among"))
 F_Rule_is_part_of : FnD' K ("Rule", some "is_part_of") "is_part_of" "Rule.is_part_of" s_Rule_is_part_of
 F_Rule___eq__ : FnD' K ("Rule", some "__eq__") "__eq__" "Rule.__eq__" s_Rule___eq__
 F_Form_forms : FnD' K ("Form", some "forms") "forms" "Form.forms" s_Form_forms
 F_Either_forms : FnD' K ("Either", some "forms") "forms" "Either.forms" s_Either_forms
 F_Both_forms : FnD' K ("Both", some "forms") "forms" "Both.forms" s_Both_forms
 F_Either___init__ : FnD' K ("Either", some "__init__") "__init__" "Either.__init__" s_Either___init__
 F_Pattern___or__ : FnD' K ("Pattern", some "__or__") "__or__" "Pattern.__or__" s_Pattern___or__
 F_Both___init__ : FnD' K ("Both", some "__init__") "__init__" "Both.__init__" s_Both___init__
 F_Pattern___and__ : FnD' K ("Pattern", some "__and__") "__and__" "Pattern.__and__" s_Pattern___and__
 F_is_line : FnD' K ("is_line", none) "is_line" "is_line" s_is_line
 g_is_line : mg "is_line" = some (.ref (He.ga K "is_line"))
 F_is_allowed : FnD' K ("is_allowed_patterns", none) "is_allowed" "is_allowed" s_is_allowed
 g_is_allowed : mg "is_allowed_patterns" = some (.ref (He.ga K "is_allowed_patterns"))
 F_Form___init__ : FnD' K ("Form", some "__init__") "__init__" "Form.__init__" s_Form___init__
 F_law_form : FnD' K ("_law_form", none) "_law_form" "_law_form" s_law_form
 g_law_form : mg "_law_form" = some (.ref (He.ga K "_law_form"))
 F_law_built : FnD' K ("_law_built", none) "_law_built" "_law_built" s_law_built
 g_law_built : mg "_law_built" = some (.ref (He.ga K "_law_built"))
 F_law_marks : FnD' K ("_law_marks", none) "_law_marks" "_law_marks" s_law_marks
 g_law_marks : mg "_law_marks" = some (.ref (He.ga K "_law_marks"))
 F_law_ruled : FnD' K ("_law_ruled", none) "_law_ruled" "_law_ruled" s_law_ruled
 g_law_ruled : mg "_law_ruled" = some (.ref (He.ga K "_law_ruled"))
 F_law_name : FnD' K ("_law_name", none) "_law_name" "_law_name" s_law_name
 g_law_name : mg "_law_name" = some (.ref (He.ga K "_law_name"))
 F_law_among : FnD' K ("_law_among", none) "_law_among" "_law_among" s_law_among
 g_law_among : mg "_law_among" = some (.ref (He.ga K "_law_among"))
 F_law_part : FnD' K ("_law_part", none) "_law_part" "_law_part" s_law_part
 g_law_part : mg "_law_part" = some (.ref (He.ga K "_law_part"))
 F_law_line : FnD' K ("_law_line", none) "_law_line" "_law_line" s_law_line
 g_law_line : mg "_law_line" = some (.ref (He.ga K "_law_line"))
 F_law_written : FnD' K ("_law_written", none) "_law_written" "_law_written" s_law_written
 g_law_written : mg "_law_written" = some (.ref (He.ga K "_law_written"))
 F_law_row : FnD' K ("_law_row", none) "_law_row" "_law_row" s_law_row
 g_law_row : mg "_law_row" = some (.ref (He.ga K "_law_row"))
 F_Form___contains__ : FnD' K ("Form", some "__contains__") "__contains__" "Pattern.__contains__" s_Form___contains__
 F_Both___contains__ : FnD' K ("Both", some "__contains__") "__contains__" "Pattern.__contains__" s_Both___contains__
 F_Either___contains__ : FnD' K ("Either", some "__contains__") "__contains__" "Pattern.__contains__" s_Either___contains__
 F_Form_holds : FnD' K ("Form", some "holds") "holds" "Form.holds" s_Form_holds
 F_Either_holds : FnD' K ("Either", some "holds") "holds" "Either.holds" s_Either_holds
 F_Both_holds : FnD' K ("Both", some "holds") "holds" "Both.holds" s_Both_holds
 F_cells_of : FnD' K ("cells_of", none) "cells_of" "cells_of" s_cells_of
 g_cells_of : mg "cells_of" = some (.ref (He.ga K "cells_of"))
 F_closed : FnD' K ("closed", none) "closed" "closed" s_closed
 g_closed : mg "closed" = some (.ref (He.ga K "closed"))
 F_started : FnD' K ("started", none) "started" "started" s_started
 g_started : mg "started" = some (.ref (He.ga K "started"))
 F_Form_parts : FnD' K ("Form", some "parts") "parts" "Form.parts" s_Form_parts
 F_takes : FnD' K ("takes", none) "takes" "takes" s_takes
 g_takes : mg "takes" = some (.ref (He.ga K "takes"))
 F_moved : FnD' K ("moved", none) "moved" "moved" s_moved
 g_moved : mg "moved" = some (.ref (He.ga K "moved"))
 F_is_done : FnD' K ("is_done", none) "is_done" "is_done" s_is_done
 g_is_done : mg "is_done" = some (.ref (He.ga K "is_done"))
 F_Rule_begins_on : FnD' K ("Rule", some "begins_on") "begins_on" "Rule.begins_on" s_Rule_begins_on
 F_law_ends : FnD' K ("_law_ends", none) "_law_ends" "_law_ends" s_law_ends
 g_law_ends : mg "_law_ends" = some (.ref (He.ga K "_law_ends"))
 F_law_fits : FnD' K ("_law_fits", none) "_law_fits" "_law_fits" s_law_fits
 g_law_fits : mg "_law_fits" = some (.ref (He.ga K "_law_fits"))
 F_law_bears : FnD' K ("_law_bears", none) "_law_bears" "_law_bears" s_law_bears
 g_law_bears : mg "_law_bears" = some (.ref (He.ga K "_law_bears"))
 F_law_marked : FnD' K ("_law_marked", none) "_law_marked" "_law_marked" s_law_marked
 g_law_marked : mg "_law_marked" = some (.ref (He.ga K "_law_marked"))
 F_Rule_ends_on : FnD' K ("Rule", some "ends_on") "ends_on" "Rule.ends_on" s_Rule_ends_on
 F_law_lines : FnD' K ("_law_lines", none) "_law_lines" "_law_lines" s_law_lines
 g_law_lines : mg "_law_lines" = some (.ref (He.ga K "_law_lines"))
 F_law_right : FnD' K ("_law_right", none) "_law_right" "_law_right" s_law_right
 g_law_right : mg "_law_right" = some (.ref (He.ga K "_law_right"))
 sm_Rule_by_first : Sm K "Rule" "by_first" "Rule.by_first" s_Rule_by_first
 sm_Rule_by_last : Sm K "Rule" "by_last" "Rule.by_last" s_Rule_by_last
 sm_Rule_every_line : Sm K "Rule" "every_line" "Rule.every_line" s_Rule_every_line
 pr_Rule_quiet : Pr K "Rule" "quiet" "Rule.quiet" s_Rule_quiet
 F_law_too_many : FnD' K ("_law_too_many", none) "_law_too_many" "_law_too_many" s_law_too_many
 g_law_too_many : mg "_law_too_many" = some (.ref (He.ga K "_law_too_many"))
 F_Rule_begins : FnD' K ("Rule", some "begins") "begins" "Rule.begins" s_Rule_begins
 F_law_texts : FnD' K ("_law_texts", none) "_law_texts" "_law_texts" s_law_texts
 g_law_texts : mg "_law_texts" = some (.ref (He.ga K "_law_texts"))
 F_Rule_ends : FnD' K ("Rule", some "ends") "ends" "Rule.ends" s_Rule_ends
 pr_Rule_most : Pr K "Rule" "most" "Rule.most" s_Rule_most
 pr_Rule_tags : Pr K "Rule" "tags" "Rule.tags" s_Rule_tags
 pr_Rule_alone : Pr K "Rule" "alone" "Rule.alone" s_Rule_alone
 F_law_statics : FnD' K ("_law_statics", none) "_law_statics" "_law_statics" s_law_statics
 g_law_statics : mg "_law_statics" = some (.ref (He.ga K "_law_statics"))
 F_law_mixed : FnD' K ("_law_mixed", none) "_law_mixed" "_law_mixed" s_law_mixed
 g_law_mixed : mg "_law_mixed" = some (.ref (He.ga K "_law_mixed"))
 F_law_other : FnD' K ("_law_other", none) "_law_other" "_law_other" s_law_other
 g_law_other : mg "_law_other" = some (.ref (He.ga K "_law_other"))
 F_law : FnD' K ("law", none) "law" "law" s_law
 g_law : mg "law" = some (.ref (He.ga K "law"))
 c_Form : Cls K (He.ga K "Form")
 gc_Form : mg "Form" = some (.ref (He.ga K "Form"))
 na_Form_pieces : NoAttr K (He.ga K "Form") "pieces"
 me_Form___str__ : Meth K (He.ga K "Form") "__str__" (He.fAd K ("Form", some "__str__"))
 me_Form_forms : Meth K (He.ga K "Form") "forms" (He.fAd K ("Form", some "forms"))
 mk_Form : Mk K (He.ga K "Form") (He.fAd K ("Form", some "__init__"))
 me_Form___contains__ : Meth K (He.ga K "Form") "__contains__" (He.fAd K ("Form", some "__contains__"))
 me_Form_holds : Meth K (He.ga K "Form") "holds" (He.fAd K ("Form", some "holds"))
 me_Form_parts : Meth K (He.ga K "Form") "parts" (He.fAd K ("Form", some "parts"))
 c_Both : Cls K (He.ga K "Both")
 gc_Both : mg "Both" = some (.ref (He.ga K "Both"))
 na_Both_left : NoAttr K (He.ga K "Both") "left"
 na_Both_right : NoAttr K (He.ga K "Both") "right"
 me_Both___str__ : Meth K (He.ga K "Both") "__str__" (He.fAd K ("Both", some "__str__"))
 me_Both_forms : Meth K (He.ga K "Both") "forms" (He.fAd K ("Both", some "forms"))
 mk_Both : Mk K (He.ga K "Both") (He.fAd K ("Both", some "__init__"))
 me_Both___contains__ : Meth K (He.ga K "Both") "__contains__" (He.fAd K ("Both", some "__contains__"))
 me_Both_holds : Meth K (He.ga K "Both") "holds" (He.fAd K ("Both", some "holds"))
 c_Either : Cls K (He.ga K "Either")
 gc_Either : mg "Either" = some (.ref (He.ga K "Either"))
 na_Either_left : NoAttr K (He.ga K "Either") "left"
 na_Either_right : NoAttr K (He.ga K "Either") "right"
 me_Either___str__ : Meth K (He.ga K "Either") "__str__" (He.fAd K ("Either", some "__str__"))
 me_Either_forms : Meth K (He.ga K "Either") "forms" (He.fAd K ("Either", some "forms"))
 mk_Either : Mk K (He.ga K "Either") (He.fAd K ("Either", some "__init__"))
 me_Either___contains__ : Meth K (He.ga K "Either") "__contains__" (He.fAd K ("Either", some "__contains__"))
 me_Either_holds : Meth K (He.ga K "Either") "holds" (He.fAd K ("Either", some "holds"))
 c_Pattern : Cls K (He.ga K "Pattern")
 gc_Pattern : mg "Pattern" = some (.ref (He.ga K "Pattern"))
 me_Pattern___or__ : Meth K (He.ga K "Pattern") "__or__" (He.fAd K ("Pattern", some "__or__"))
 me_Pattern___and__ : Meth K (He.ga K "Pattern") "__and__" (He.fAd K ("Pattern", some "__and__"))
 c_Rule : Cls K (He.ga K "Rule")
 gc_Rule : mg "Rule" = some (.ref (He.ga K "Rule"))
 na_Rule_openers : NoAttr K (He.ga K "Rule") "openers"
 na_Rule_closers : NoAttr K (He.ga K "Rule") "closers"
 na_Rule_settings : NoAttr K (He.ga K "Rule") "settings"
 mk_Rule : Mk K (He.ga K "Rule") (He.fAd K ("Rule", some "__init__"))
 me_Rule_is_part_of : Meth K (He.ga K "Rule") "is_part_of" (He.fAd K ("Rule", some "is_part_of"))
 me_Rule___eq__ : Meth K (He.ga K "Rule") "__eq__" (He.fAd K ("Rule", some "__eq__"))
 me_Rule_begins_on : Meth K (He.ga K "Rule") "begins_on" (He.fAd K ("Rule", some "begins_on"))
 me_Rule_ends_on : Meth K (He.ga K "Rule") "ends_on" (He.fAd K ("Rule", some "ends_on"))
 me_Rule_begins : Meth K (He.ga K "Rule") "begins" (He.fAd K ("Rule", some "begins"))
 me_Rule_ends : Meth K (He.ga K "Rule") "ends" (He.fAd K ("Rule", some "ends"))
 pf : PatF K
 er_NoRule : Er P K mg "NoRule" "NoRule.__init__" (defArgs si_NoRule) (defBody si_NoRule) (defScope si_NoRule) ["field"]
 cv_Form_ANY : cvB K (He.ga K "Form") "ANY" "<any>" = true
 gx_NoRule : mg "NoRule" = some (.ref (He.ga K "NoRule"))
 xm_NoRule_NoRule : PySem.W.exmOne K (.ref (He.ga K "NoRule")) (.ref (He.ga K "NoRule")) = some true
 oe_Rule : OwnE K "Rule"
 k_ANY_CELL : ∃ t, mg "ANY_CELL" = some (.str "<any>" t)
 k_DIGITS_CELL : ∃ t, mg "DIGITS_CELL" = some (.str "<digits>" t)
 k_DIGIT_SIGNS : ∃ t, mg "DIGIT_SIGNS" = some (.str "0123456789" t)
 g_FIELDS : mg "FIELDS" = some (.ref (He.ga K "FIELDS"))
 q_FIELDS : ∀ F : Hp, (qT qS).r K F (.ref (He.ga K "FIELDS")) (["most", "alone", "tags", "quiet"] : List Str)
 g_FREE_CELLS : mg "FREE_CELLS" = some (.ref (He.ga K "FREE_CELLS"))
 q_FREE_CELLS : ∀ F : Hp, (qT qS).r K F (.ref (He.ga K "FREE_CELLS")) (["<digits>", "<word>", "<any>"] : List Str)
 k_LETTER_SIGNS : ∃ t, mg "LETTER_SIGNS" = some (.str "ABCDEFGHIJKLMNOPQRSTUVWXYZabcdefghijklmnopqrstuvwxyz" t)
 k_MOST_FORMS : ∃ t, mg "MOST_FORMS" = some (.int 3 t)
 k_MOST_PARTS : ∃ t, mg "MOST_PARTS" = some (.int 4 t)
 k_MOST_SIGNS : ∃ t, mg "MOST_SIGNS" = some (.int 4 t)
 k_SIGNS : ∃ t, mg "SIGNS" = some (.str " #-.0123456789:>ABCDEFGHIJKLMNOPQRSTUVWXYZabcdefghijklmnopqrstuvwxyz" t)
 k_WORD_CELL : ∃ t, mg "WORD_CELL" = some (.str "<word>" t)
 n_all : mg "all" = none
 n_any : mg "any" = none
 n_bool : mg "bool" = none
 n_int : mg "int" = none
 n_isinstance : mg "isinstance" = none
 n_len : mg "len" = none
 n_list : mg "list" = none
 n_max : mg "max" = none
 n_min : mg "min" = none
 n_range : mg "range" = none
 n_str : mg "str" = none
 n_tuple : mg "tuple" = none
section
variable {P : Program} {w : World} {K : PySem.W.Frag} {mg : Str → Option Value} {base : Heap}
theorem fld_Form_pieces {P0' : Addr → Prop} {F0 H0 F H : Hp} {v : V} {a : (List Str)} {Q : VK} (T : Tx P K mg) (S : Sx P0' F0 H0 F H) (r : qForm.r K F v a) (k : ∀ u, (qT qS).r K F u a → Q u H) : fdK K "pieces" Q v H := by
 obtain ⟨p, dx, u0, rfl, h2, k0⟩ := r
 exact fd_at (S.sub _ _ h2) T.c_Form T.na_Form_pieces (by rfl) (k _ k0)
theorem mt_Form___str__ {P0' : Addr → Prop} {F0 H0 F H : Hp} {v : V} {a : (List Str)} {G : V → Hp → Prop} (S : Sx P0' F0 H0 F H) (r : qForm.r K F v a) (k : G v H) : mtK (He.ga K "Form") "__str__" G v H := by
 obtain ⟨p, dx, u0, rfl, h2, k0⟩ := r
 exact mt_at (S.sub _ _ h2) (by rfl) k
theorem mt_Form_forms {P0' : Addr → Prop} {F0 H0 F H : Hp} {v : V} {a : (List Str)} {G : V → Hp → Prop} (S : Sx P0' F0 H0 F H) (r : qForm.r K F v a) (k : G v H) : mtK (He.ga K "Form") "forms" G v H := by
 obtain ⟨p, dx, u0, rfl, h2, k0⟩ := r
 exact mt_at (S.sub _ _ h2) (by rfl) k
theorem in_Form___contains__ {P0' : Addr → Prop} {F0 H0 F H : Hp} {v : V} {a : (List Str)} {Q : VK} {E : XK} {sp : L2.Sp} {x : V} (S : Sx P0' F0 H0 F H) (r : qForm.r K F v a) (k : sp [v, x] H (inK Q) E) : rInO (He.ga K "Form") sp E x v H Q := by
 obtain ⟨p, dx, u0, rfl, h2, k0⟩ := r
 exact in_at (S.sub _ _ h2) k
theorem mt_Form_holds {P0' : Addr → Prop} {F0 H0 F H : Hp} {v : V} {a : (List Str)} {G : V → Hp → Prop} (S : Sx P0' F0 H0 F H) (r : qForm.r K F v a) (k : G v H) : mtK (He.ga K "Form") "holds" G v H := by
 obtain ⟨p, dx, u0, rfl, h2, k0⟩ := r
 exact mt_at (S.sub _ _ h2) (by rfl) k
theorem mt_Form_parts {P0' : Addr → Prop} {F0 H0 F H : Hp} {v : V} {a : (List Str)} {G : V → Hp → Prop} (S : Sx P0' F0 H0 F H) (r : qForm.r K F v a) (k : G v H) : mtK (He.ga K "Form") "parts" G v H := by
 obtain ⟨p, dx, u0, rfl, h2, k0⟩ := r
 exact mt_at (S.sub _ _ h2) (by rfl) k
theorem fld_Both_left {P0' : Addr → Prop} {F0 H0 F H : Hp} {v : V} {a : (Pat × Pat)} {Q : VK} (T : Tx P K mg) (S : Sx P0' F0 H0 F H) (r : qBoth.r K F v a) (k : ∀ u, qPat.r K F u a.1 → Q u H) : fdK K "left" Q v H := by
 obtain ⟨p, dx, u0, u1, rfl, h2, k0, k1⟩ := r
 exact fd_at (S.sub _ _ h2) T.c_Both T.na_Both_left (by rfl) (k _ k0)
theorem fld_Both_right {P0' : Addr → Prop} {F0 H0 F H : Hp} {v : V} {a : (Pat × Pat)} {Q : VK} (T : Tx P K mg) (S : Sx P0' F0 H0 F H) (r : qBoth.r K F v a) (k : ∀ u, qPat.r K F u a.2 → Q u H) : fdK K "right" Q v H := by
 obtain ⟨p, dx, u0, u1, rfl, h2, k0, k1⟩ := r
 exact fd_at (S.sub _ _ h2) T.c_Both T.na_Both_right (by rfl) (k _ k1)
theorem mt_Both___str__ {P0' : Addr → Prop} {F0 H0 F H : Hp} {v : V} {a : (Pat × Pat)} {G : V → Hp → Prop} (S : Sx P0' F0 H0 F H) (r : qBoth.r K F v a) (k : G v H) : mtK (He.ga K "Both") "__str__" G v H := by
 obtain ⟨p, dx, u0, u1, rfl, h2, k0, k1⟩ := r
 exact mt_at (S.sub _ _ h2) (by rfl) k
theorem mt_Both_forms {P0' : Addr → Prop} {F0 H0 F H : Hp} {v : V} {a : (Pat × Pat)} {G : V → Hp → Prop} (S : Sx P0' F0 H0 F H) (r : qBoth.r K F v a) (k : G v H) : mtK (He.ga K "Both") "forms" G v H := by
 obtain ⟨p, dx, u0, u1, rfl, h2, k0, k1⟩ := r
 exact mt_at (S.sub _ _ h2) (by rfl) k
theorem in_Both___contains__ {P0' : Addr → Prop} {F0 H0 F H : Hp} {v : V} {a : (Pat × Pat)} {Q : VK} {E : XK} {sp : L2.Sp} {x : V} (S : Sx P0' F0 H0 F H) (r : qBoth.r K F v a) (k : sp [v, x] H (inK Q) E) : rInO (He.ga K "Both") sp E x v H Q := by
 obtain ⟨p, dx, u0, u1, rfl, h2, k0, k1⟩ := r
 exact in_at (S.sub _ _ h2) k
theorem mt_Both_holds {P0' : Addr → Prop} {F0 H0 F H : Hp} {v : V} {a : (Pat × Pat)} {G : V → Hp → Prop} (S : Sx P0' F0 H0 F H) (r : qBoth.r K F v a) (k : G v H) : mtK (He.ga K "Both") "holds" G v H := by
 obtain ⟨p, dx, u0, u1, rfl, h2, k0, k1⟩ := r
 exact mt_at (S.sub _ _ h2) (by rfl) k
theorem fld_Either_left {P0' : Addr → Prop} {F0 H0 F H : Hp} {v : V} {a : (Pat × Pat)} {Q : VK} (T : Tx P K mg) (S : Sx P0' F0 H0 F H) (r : qEither.r K F v a) (k : ∀ u, qPat.r K F u a.1 → Q u H) : fdK K "left" Q v H := by
 obtain ⟨p, dx, u0, u1, rfl, h2, k0, k1⟩ := r
 exact fd_at (S.sub _ _ h2) T.c_Either T.na_Either_left (by rfl) (k _ k0)
theorem fld_Either_right {P0' : Addr → Prop} {F0 H0 F H : Hp} {v : V} {a : (Pat × Pat)} {Q : VK} (T : Tx P K mg) (S : Sx P0' F0 H0 F H) (r : qEither.r K F v a) (k : ∀ u, qPat.r K F u a.2 → Q u H) : fdK K "right" Q v H := by
 obtain ⟨p, dx, u0, u1, rfl, h2, k0, k1⟩ := r
 exact fd_at (S.sub _ _ h2) T.c_Either T.na_Either_right (by rfl) (k _ k1)
theorem mt_Either___str__ {P0' : Addr → Prop} {F0 H0 F H : Hp} {v : V} {a : (Pat × Pat)} {G : V → Hp → Prop} (S : Sx P0' F0 H0 F H) (r : qEither.r K F v a) (k : G v H) : mtK (He.ga K "Either") "__str__" G v H := by
 obtain ⟨p, dx, u0, u1, rfl, h2, k0, k1⟩ := r
 exact mt_at (S.sub _ _ h2) (by rfl) k
theorem mt_Either_forms {P0' : Addr → Prop} {F0 H0 F H : Hp} {v : V} {a : (Pat × Pat)} {G : V → Hp → Prop} (S : Sx P0' F0 H0 F H) (r : qEither.r K F v a) (k : G v H) : mtK (He.ga K "Either") "forms" G v H := by
 obtain ⟨p, dx, u0, u1, rfl, h2, k0, k1⟩ := r
 exact mt_at (S.sub _ _ h2) (by rfl) k
theorem in_Either___contains__ {P0' : Addr → Prop} {F0 H0 F H : Hp} {v : V} {a : (Pat × Pat)} {Q : VK} {E : XK} {sp : L2.Sp} {x : V} (S : Sx P0' F0 H0 F H) (r : qEither.r K F v a) (k : sp [v, x] H (inK Q) E) : rInO (He.ga K "Either") sp E x v H Q := by
 obtain ⟨p, dx, u0, u1, rfl, h2, k0, k1⟩ := r
 exact in_at (S.sub _ _ h2) k
theorem mt_Either_holds {P0' : Addr → Prop} {F0 H0 F H : Hp} {v : V} {a : (Pat × Pat)} {G : V → Hp → Prop} (S : Sx P0' F0 H0 F H) (r : qEither.r K F v a) (k : G v H) : mtK (He.ga K "Either") "holds" G v H := by
 obtain ⟨p, dx, u0, u1, rfl, h2, k0, k1⟩ := r
 exact mt_at (S.sub _ _ h2) (by rfl) k
theorem fld_Rule_openers {P0' : Addr → Prop} {F0 H0 F H : Hp} {v : V} {a : τ5ₓ} {Q : VK} (T : Tx P K mg) (S : Sx P0' F0 H0 F H) (r : qRule.r K F v a) (k : ∀ u, (qL qPat).r K F u a.1 → Q u H) : fdK K "openers" Q v H := by
 obtain ⟨p, dx, u0, u1, u2, rfl, h2, k0, k1, k2⟩ := r
 exact fd_at (S.sub _ _ h2) T.c_Rule T.na_Rule_openers (by rfl) (k _ k0)
theorem fld_Rule_closers {P0' : Addr → Prop} {F0 H0 F H : Hp} {v : V} {a : τ5ₓ} {Q : VK} (T : Tx P K mg) (S : Sx P0' F0 H0 F H) (r : qRule.r K F v a) (k : ∀ u, (qL qPat).r K F u a.2.1 → Q u H) : fdK K "closers" Q v H := by
 obtain ⟨p, dx, u0, u1, u2, rfl, h2, k0, k1, k2⟩ := r
 exact fd_at (S.sub _ _ h2) T.c_Rule T.na_Rule_closers (by rfl) (k _ k1)
theorem fld_Rule_settings {P0' : Addr → Prop} {F0 H0 F H : Hp} {v : V} {a : τ5ₓ} {Q : VK} (T : Tx P K mg) (S : Sx P0' F0 H0 F H) (r : qRule.r K F v a) (k : ∀ u, qSd.r K F u a.2.2 → Q u H) : fdK K "settings" Q v H := by
 obtain ⟨p, dx, u0, u1, u2, rfl, h2, k0, k1, k2⟩ := r
 exact fd_at (S.sub _ _ h2) T.c_Rule T.na_Rule_settings (by rfl) (k _ k2)
theorem mt_Rule_is_part_of {P0' : Addr → Prop} {F0 H0 F H : Hp} {v : V} {a : τ5ₓ} {G : V → Hp → Prop} (S : Sx P0' F0 H0 F H) (r : qRule.r K F v a) (k : G v H) : mtK (He.ga K "Rule") "is_part_of" G v H := by
 obtain ⟨p, dx, u0, u1, u2, rfl, h2, k0, k1, k2⟩ := r
 exact mt_at (S.sub _ _ h2) (by rfl) k
theorem oe_Rule {P0' : Addr → Prop} {F0 H0 F H : Hp} {v : V} {a : τ5ₓ} {w : V} {b : τ5ₓ} {Q : VK} {E : XK} {sp : L2.Sp} (U : OwnE K "Rule") (S : Sx P0' F0 H0 F H) (r : qRule.r K F v a) (r2 : qRule.r K F w b) (k : sp [v, w] H Q E) : rEqO K (He.fAd K ("Rule", some "__eq__")) sp E v w H Q := by
 obtain ⟨p, dx, u0, u1, u2, rfl, h2, k0, k1, k2⟩ := r
 obtain ⟨p2, dx2, w0, w1, w2, rfl, h4, j0, j1, j2⟩ := r2
 exact oe_eq U (S.sub _ _ h2) (S.sub _ _ h4) k
theorem on_Rule {P0' : Addr → Prop} {F0 H0 F H : Hp} {v : V} {a : τ5ₓ} {w : V} {b : τ5ₓ} {Q : VK} {E : XK} {sp : L2.Sp} (U : OwnE K "Rule") (S : Sx P0' F0 H0 F H) (r : qRule.r K F v a) (r2 : qRule.r K F w b) (k : sp [v, w] H (neK Q) E) : rNeO K (He.fAd K ("Rule", some "__eq__")) sp E v w H Q := by
 obtain ⟨p, dx, u0, u1, u2, rfl, h2, k0, k1, k2⟩ := r
 obtain ⟨p2, dx2, w0, w1, w2, rfl, h4, j0, j1, j2⟩ := r2
 exact oe_ne U (S.sub _ _ h2) (S.sub _ _ h4) k
theorem oei_Rule {P0' : Addr → Prop} {F0 H0 F H : Hp} {v : V} {a : τ5ₓ} {i : Int} {Q : VK} {E : XK} {sp : L2.Sp} (U : OwnE K "Rule") (S : Sx P0' F0 H0 F H) (r : qRule.r K F v a) (k : sp [v, .int i] H Q E) : rEqOI K (He.fAd K ("Rule", some "__eq__")) sp E v (.int i) H Q := by
 obtain ⟨p, dx, u0, u1, u2, rfl, h2, k0, k1, k2⟩ := r
 exact oe_int U (S.sub _ _ h2) k
theorem oep_Rule {P0' : Addr → Prop} {F0 H0 F H : Hp} {v : V} {a : τ5ₓ} {w : V} {b : Pat} {Q : VK} {E : XK} {sp : L2.Sp} (U : OwnE K "Rule") (S : Sx P0' F0 H0 F H) (r : qRule.r K F v a) (r2 : qPat.r K F w b) (k : sp [v, w] H Q E) : rEqO K (He.fAd K ("Rule", some "__eq__")) sp E v w H Q := by
 obtain ⟨p, dx, u0, u1, u2, rfl, h2, k0, k1, k2⟩ := r
 exact oe_pat U (S.sub _ _ h2) S r2 k
theorem oi_Rule {P0' : Addr → Prop} {F0 H0 F H : Hp} {v : V} {a : τ5ₓ} {Q : VK} (T : Cls K (He.ga K "Rule")) (U : OwnE K "Rule") (S : Sx P0' F0 H0 F H) (r : qRule.r K F v a) (k : Q (.bl true) H) : rIsi K [v, .ref (He.ga K "Rule")] H Q := by
 obtain ⟨p, dx, u0, u1, u2, rfl, h2, k0, k1, k2⟩ := r
 exact rd_isOwn T U (S.sub _ _ h2) k
theorem mt_Rule_begins_on {P0' : Addr → Prop} {F0 H0 F H : Hp} {v : V} {a : τ5ₓ} {G : V → Hp → Prop} (S : Sx P0' F0 H0 F H) (r : qRule.r K F v a) (k : G v H) : mtK (He.ga K "Rule") "begins_on" G v H := by
 obtain ⟨p, dx, u0, u1, u2, rfl, h2, k0, k1, k2⟩ := r
 exact mt_at (S.sub _ _ h2) (by rfl) k
theorem mt_Rule_ends_on {P0' : Addr → Prop} {F0 H0 F H : Hp} {v : V} {a : τ5ₓ} {G : V → Hp → Prop} (S : Sx P0' F0 H0 F H) (r : qRule.r K F v a) (k : G v H) : mtK (He.ga K "Rule") "ends_on" G v H := by
 obtain ⟨p, dx, u0, u1, u2, rfl, h2, k0, k1, k2⟩ := r
 exact mt_at (S.sub _ _ h2) (by rfl) k
theorem pr_Rule_quiet {P0' : Addr → Prop} {F0 H0 F H : Hp} {v : V} {a : τ5ₓ} {Q : VK} {E : XK} {sp : L2.Sp} (S : Sx P0' F0 H0 F H) (r : qRule.r K F v a) (k : sp [v] H Q E) : prK (He.ga K "Rule") sp [] E Q v H := by
 obtain ⟨p, dx, u0, u1, u2, rfl, h2, k0, k1, k2⟩ := r
 exact pr_at (S.sub _ _ h2) k
theorem mt_Rule_begins {P0' : Addr → Prop} {F0 H0 F H : Hp} {v : V} {a : τ5ₓ} {G : V → Hp → Prop} (S : Sx P0' F0 H0 F H) (r : qRule.r K F v a) (k : G v H) : mtK (He.ga K "Rule") "begins" G v H := by
 obtain ⟨p, dx, u0, u1, u2, rfl, h2, k0, k1, k2⟩ := r
 exact mt_at (S.sub _ _ h2) (by rfl) k
theorem mt_Rule_ends {P0' : Addr → Prop} {F0 H0 F H : Hp} {v : V} {a : τ5ₓ} {G : V → Hp → Prop} (S : Sx P0' F0 H0 F H) (r : qRule.r K F v a) (k : G v H) : mtK (He.ga K "Rule") "ends" G v H := by
 obtain ⟨p, dx, u0, u1, u2, rfl, h2, k0, k1, k2⟩ := r
 exact mt_at (S.sub _ _ h2) (by rfl) k
theorem pr_Rule_most {P0' : Addr → Prop} {F0 H0 F H : Hp} {v : V} {a : τ5ₓ} {Q : VK} {E : XK} {sp : L2.Sp} (S : Sx P0' F0 H0 F H) (r : qRule.r K F v a) (k : sp [v] H Q E) : prK (He.ga K "Rule") sp [] E Q v H := by
 obtain ⟨p, dx, u0, u1, u2, rfl, h2, k0, k1, k2⟩ := r
 exact pr_at (S.sub _ _ h2) k
theorem pr_Rule_tags {P0' : Addr → Prop} {F0 H0 F H : Hp} {v : V} {a : τ5ₓ} {Q : VK} {E : XK} {sp : L2.Sp} (S : Sx P0' F0 H0 F H) (r : qRule.r K F v a) (k : sp [v] H Q E) : prK (He.ga K "Rule") sp [] E Q v H := by
 obtain ⟨p, dx, u0, u1, u2, rfl, h2, k0, k1, k2⟩ := r
 exact pr_at (S.sub _ _ h2) k
theorem pr_Rule_alone {P0' : Addr → Prop} {F0 H0 F H : Hp} {v : V} {a : τ5ₓ} {Q : VK} {E : XK} {sp : L2.Sp} (S : Sx P0' F0 H0 F H) (r : qRule.r K F v a) (k : sp [v] H Q E) : prK (He.ga K "Rule") sp [] E Q v H := by
 obtain ⟨p, dx, u0, u1, u2, rfl, h2, k0, k1, k2⟩ := r
 exact pr_at (S.sub _ _ h2) k
def sp_law_pool (K : PySem.W.Frag) : Sp := fun vs H Q _ => ∃ (F : Hp) (v_script : V) (a_script : List Int) (a_k : Int) (r : (Int × Int)), vs = [v_script, (V.int (a_k))] ∧ Same F H ∧ qC.r K F v_script a_script ∧ m_law_pool a_script a_k = some r ∧ ∀ p F' H', H p = none → Sx P0 F H F' H' → Ow (fun a => a = p) H F' H' p (.lst [.int r.1, .int r.2]) → Q (.ref p) H'
theorem sc_law_pool : FnScope ["_law_script", "_law_k", "_law_cell", "_law_seed"] ["_law_script", "_law_k"] (defScope s_law_pool) := ⟨rfl, rfl, rfl, by decide +kernel, rfl, by decide +kernel, by decide +kernel⟩
theorem bn_law_pool (T : Tx P K mg) : Binds K (fdOf K ("_law_pool", none)) ["_law_script", "_law_k"] [] := FunD.bindsN T.F_law_pool fun _ _ _ _ _ _ us hl => match us, hl with | [_, _], _ => rfl
theorem ok_law_pool (T : Tx P K mg) : FnOk P w K mg base CX0 1 (He.ga K "_law_pool") (fdOf K ("_law_pool", none)) ["_law_script", "_law_k"] (sp_law_pool K) := by
 refine FunD.ok T.F_law_pool sc_law_pool (fun vs H0 Q E h => ?_) (fun cdv A outer s H0 vs Q E hr h => ?_)
 ·
  obtain ⟨_, _, _, _, _, rfl, _⟩ := h
  rfl
 ·
  obtain ⟨F0, v_script, a_script, a_k, r, rfl, hE, f_script, hm, hQ⟩ := h
  refine ⟨_, PSs.nox ((pss_cons (ps_set (i := 2) sc_law_pool.nd rfl (dk rfl) pe_int) (C8.pss_cut (ps_if (pt_cmpR (r := rNeD K) (op_neD hr.units) (pv 0) (pe_lst pa_nil) (nomark _)) (pss_one (ps_set (i := 2) sc_law_pool.nd rfl (dk rfl) (pe_ix (r := rIxL K) ix_list (pv 0) (pe_op op_mod (pe_callTy cr_int (by rfl) T.n_int (by decide +kernel) (pa_cons (pv 1) pa_nil)) (pe_callB (r := rLenQ K) cr_lenQ (by rfl) T.n_len (by decide +kernel) (pa_cons (pv 0) pa_nil))) (fun _ _ => rfl)))) pss_nil) (pss_cons (ps_set (i := 3) sc_law_pool.nd rfl (dk rfl) (pe_op op_mod (pe_op op_mul (pe_callTy cr_int (by rfl) T.n_int (by decide +kernel) (pa_cons (pe_op op_add (pe_op op_add (pe_op op_mod (pe_callTy cr_int (by rfl) T.n_int (by decide +kernel) (pa_cons (pv 2) pa_nil)) pe_int) (pe_op op_mul pe_int (pv 1))) pe_int) pa_nil)) pe_int) pe_int)) (pss_one (ps_ret (pe_lst (pa_cons (pe_op op_mul (pv 2) (pe_callTy cr_int (by rfl) T.n_int (by decide +kernel) (pa_cons (pe_cmpR op_ge (pv 2) (pe_op op_pow pe_int pe_int) (nomark _)) pa_nil))) (pa_cons (pv 3) pa_nil))))))))), ?_⟩
  have S : Sx P0 F0 H0 F0 H0 := Sx.refl0 hE
  unfold m_law_pool at hm
  obtain ⟨t1, e2, hm⟩ := bd_some hm
  refine rd_seq <| rd_asg <| rd_c <| rd_gn ?_
  refine rd_cut (fun σ' H' => ∃ (F : Hp) (o3 : Option V), σ' = [some v_script, some (V.int (a_k)), some (V.int (t1)), o3] ∧ Sx P0 F0 H0 F H') ?_ ?_
  ·
   have S3 := Sx.refl0 S.sub
   refine rd_ifS <| rd_test <| rd_op <| rd_v rfl <| rd_lst <| rd_nil <| rd_lK rfl ?_
   refine alL (K := K) (A := qI) (xs := ([] : List Int)) S3 .nil (fun v4 F5 H6 c7 f8 => ?_)
   have S9 := S3.call0 c7
   have f_script := f_script.up c7
   obtain ⟨g10, e2⟩ := gd_some e2
   obtain ⟨g11, e2⟩ := gd_some e2
   refine rd_neD (D := (dL dI)) (S9.cd f_script) (S9.d (dL dI) f8) g10 g11 ?_
   refine rd_b ?_
   refine if_b e2 (fun b12 e2 => ?_) (fun b12 e2 => ?_)
   ·
    obtain ⟨g13, e2⟩ := gd_some e2
    obtain ⟨t14, e15, e2⟩ := bd_some e2
    refine rd_asg <| rd_op <| rd_v rfl <| rd_op <| rd_cb <| rd_cons <| rd_v rfl <| rd_nil ?_
    refine rd_intI ?_
    refine rd_cb <| rd_cons <| rd_v rfl <| rd_nil ?_
    refine rd_lenQ (S9.c f_script).q ?_
    refine rd_I (modOk_of g13) ?_
    refine rd_ixL (S9.c f_script) e15 (fun u16 f17 => ?_)
    cases (show u16 = (V.int (t14)) from f17)
    cases e2
    refine rd_gn ?_
    exact ⟨F5, _, rfl, S9⟩
   ·
    cases e2
    refine rd_next ?_
    exact ⟨F5, _, rfl, S9⟩
  ·
   rintro σ19 H18 ⟨F20, o22, rfl, S21⟩
   have S23 := S.call0 S21
   have f_script := f_script.up S21
   obtain ⟨g24, hm⟩ := gd_some hm
   obtain ⟨g25, hm⟩ := gd_some hm
   obtain ⟨g26, hm⟩ := gd_some hm
   obtain ⟨g27, hm⟩ := gd_some hm
   obtain ⟨g28, hm⟩ := gd_some hm
   obtain ⟨g29, hm⟩ := gd_some hm
   refine rd_seq <| rd_asg <| rd_op <| rd_op <| rd_cb <| rd_cons <| rd_op <| rd_op <| rd_op <| rd_cb <| rd_cons <| rd_v rfl <| rd_nil ?_
   refine rd_intI ?_
   refine rd_c ?_
   refine rd_I (modOk_of g24) ?_
   refine rd_op <| rd_c <| rd_v rfl ?_
   refine rd_I (mulOk_of g25) ?_
   refine rd_I0 <| rd_c <| rd_I0 <| rd_nil ?_
   refine rd_intI ?_
   refine rd_c ?_
   refine rd_I (mulOk_of g26) ?_
   refine rd_c ?_
   refine rd_I (modOk_of g27) ?_
   refine rd_gn <| rd_ret <| rd_lst <| rd_cons <| rd_op <| rd_v rfl <| rd_cb <| rd_cons <| rd_op <| rd_v rfl <| rd_op <| rd_c <| rd_c ?_
   refine rd_I (powOk_of g28) ?_
   refine rd_I0 <| rd_nil ?_
   refine rd_intB ?_
   refine rd_I (mulOk_of g29) ?_
   refine rd_cons <| rd_v rfl <| rd_nil <| rd_lK rfl ?_
   refine al S23 (fun p30 H31 np32 c33 w34 => ?_)
   have z35 := S23.free0 np32
   have S36 := S23.call0 c33
   have f_script := f_script.up c33
   cases hm
   exact hQ _ _ _ z35 S36 ⟨w34.fr, w34.at_, .inr rfl⟩
def sp_law_take (K : PySem.W.Frag) : Sp := fun vs H Q _ => ∃ (F : Hp) (p_pool_here : Addr) (a_pool_here : Int × Int) (a_many : Int) (r : (Int × (Int × Int))), vs = [.ref p_pool_here, (V.int (a_many))] ∧ Same F H ∧ Ow (fun a => a = p_pool_here) H F H p_pool_here (.lst [.int a_pool_here.1, .int a_pool_here.2]) ∧ m_law_take a_pool_here a_many = some r ∧ ∀ v F' H', Sx (fun a => a = p_pool_here) F H F' H' → Ow (fun a => a = p_pool_here) H F' H' p_pool_here (.lst [.int r.2.1, .int r.2.2]) → qI.r K F' v r.1 → Q v H'
theorem sc_law_take : FnScope ["_law_pool_here", "_law_many", "_law_digit"] ["_law_pool_here", "_law_many"] (defScope s_law_take) := ⟨rfl, rfl, rfl, by decide +kernel, rfl, by decide +kernel, by decide +kernel⟩
theorem bn_law_take (T : Tx P K mg) : Binds K (fdOf K ("_law_take", none)) ["_law_pool_here", "_law_many"] [] := FunD.bindsN T.F_law_take fun _ _ _ _ _ _ us hl => match us, hl with | [_, _], _ => rfl
theorem ok_law_take (T : Tx P K mg) : FnOk P w K mg base CX0 1 (He.ga K "_law_take") (fdOf K ("_law_take", none)) ["_law_pool_here", "_law_many"] (sp_law_take K) := by
 refine FunD.ok T.F_law_take sc_law_take (fun vs H0 Q E h => ?_) (fun cdv A outer s H0 vs Q E hr h => ?_)
 ·
  obtain ⟨_, _, _, _, _, rfl, _⟩ := h
  rfl
 ·
  obtain ⟨F0, p_pool_here, a_pool_here, a_many, r, rfl, hE, w_pool_here, hm, hQ⟩ := h
  refine ⟨_, PSs.nox ((pss_cons (ps_if (pt_cmpR op_gt (pe_ix (r := rIxL K) ix_list (pv 0) pe_int (fun _ _ => rfl)) pe_int (nomark _)) (pss_cons (ps_set (i := 2) sc_law_take.nd rfl (dk rfl) (pe_op op_mod (pe_callTy cr_int (by rfl) T.n_int (by decide +kernel) (pa_cons (pe_ix (r := rIxL K) ix_list (pv 0) pe_int (fun _ _ => rfl)) pa_nil)) (pv 1))) (pss_cons (ps_asg (pe_op op_fdiv (pe_ix (r := rIxL K) ix_list (pv 0) pe_int (fun _ _ => rfl)) (pv 1)) (pg_sub (pv 0) pe_int set_list)) (pss_one (ps_ret (pv 2))))) pss_nil) (pss_cons (ps_asg (pe_op op_mod (pe_callTy cr_int (by rfl) T.n_int (by decide +kernel) (pa_cons (pe_op op_add (pe_op op_mul (pe_ix (r := rIxL K) ix_list (pv 0) pe_int (fun _ _ => rfl)) pe_int) pe_int) pa_nil)) pe_int) (pg_sub (pv 0) pe_int set_list)) (pss_one (ps_ret (pe_op op_mod (pe_callTy cr_int (by rfl) T.n_int (by decide +kernel) (pa_cons (pe_op op_fdiv (pe_op op_mod (pe_callTy cr_int (by rfl) T.n_int (by decide +kernel) (pa_cons (pe_op op_mul (pe_ix (r := rIxL K) ix_list (pv 0) pe_int (fun _ _ => rfl)) (pe_ix (r := rIxL K) ix_list (pv 0) pe_int (fun _ _ => rfl))) pa_nil)) pe_int) pe_int) pa_nil)) (pv 1))))))), ?_⟩
  have S : Sx (fun a => a = p_pool_here) F0 H0 F0 H0 := Sx.refl hE (live1 w_pool_here)
  unfold m_law_take at hm
  refine rd_seq <| rd_ifS <| rd_test <| rd_op <| rd_op <| rd_v rfl <| rd_c ?_
  refine pool0 w_pool_here ?_
  refine rd_c <| rd_I0 <| rd_b ?_
  refine if_b hm (fun b1 hm => ?_) (fun b1 hm => ?_)
  ·
   obtain ⟨g2, hm⟩ := gd_some hm
   obtain ⟨g3, hm⟩ := gd_some hm
   refine rd_seq <| rd_asg <| rd_op <| rd_cb <| rd_cons <| rd_op <| rd_v rfl <| rd_c ?_
   refine pool0 w_pool_here ?_
   refine rd_nil ?_
   refine rd_intI ?_
   refine rd_v rfl ?_
   refine rd_I (modOk_of g2) ?_
   refine rd_gn <| rd_seq <| rd_asg <| rd_op <| rd_op <| rd_v rfl <| rd_c ?_
   refine pool0 w_pool_here ?_
   refine rd_v rfl ?_
   refine rd_I (divOk_of g3) ?_
   refine rd_gsub <| rd_v rfl <| rd_c ?_
   refine pset0 S w_pool_here (fun H4 c5 w6 => ?_)
   have S7 := S.call1 c5 w_pool_here
   cases hm
   refine rd_ret <| rd_v rfl ?_
   exact hQ _ _ _ S7 w6 rfl
  ·
   obtain ⟨g8, hm⟩ := gd_some hm
   obtain ⟨g9, hm⟩ := gd_some hm
   refine rd_next <| rd_seq <| rd_asg <| rd_op <| rd_cb <| rd_cons <| rd_op <| rd_op <| rd_op <| rd_v rfl <| rd_c ?_
   refine pool1 w_pool_here ?_
   refine rd_c ?_
   refine rd_I (mulOk_of g8) ?_
   refine rd_c <| rd_I0 <| rd_nil ?_
   refine rd_intI ?_
   refine rd_c ?_
   refine rd_I (modOk_of g9) ?_
   refine rd_gsub <| rd_v rfl <| rd_c ?_
   refine pset1 S w_pool_here (fun H10 c11 w12 => ?_)
   have S13 := S.call1 c11 w_pool_here
   obtain ⟨g14, hm⟩ := gd_some hm
   obtain ⟨g15, hm⟩ := gd_some hm
   obtain ⟨g16, hm⟩ := gd_some hm
   obtain ⟨g17, hm⟩ := gd_some hm
   cases hm
   refine rd_ret <| rd_op <| rd_cb <| rd_cons <| rd_op <| rd_op <| rd_cb <| rd_cons <| rd_op <| rd_op <| rd_v rfl <| rd_c ?_
   refine pool1 w12 ?_
   refine rd_op <| rd_v rfl <| rd_c ?_
   refine pool1 w12 ?_
   refine rd_I (mulOk_of g14) ?_
   refine rd_nil ?_
   refine rd_intI ?_
   refine rd_c ?_
   refine rd_I (modOk_of g15) ?_
   refine rd_c ?_
   refine rd_I (divOk_of g16) ?_
   refine rd_nil ?_
   refine rd_intI ?_
   refine rd_v rfl ?_
   refine rd_I (modOk_of g17) ?_
   exact hQ _ _ _ S13 w12 rfl
def sp_law_all_signs (K : PySem.W.Frag) : Sp := fun vs H Q _ => ∃ (F : Hp)  (r : Str), vs = [] ∧ Same F H ∧ m_law_all_signs = some r ∧ ∀ v F' H', Sx P0 F H F' H' → qS.r K F' v r → Q v H'
theorem sc_law_all_signs : FnScope [] [] (defScope s_law_all_signs) := ⟨rfl, rfl, rfl, by decide +kernel, rfl, by decide +kernel, by decide +kernel⟩
theorem bn_law_all_signs (T : Tx P K mg) : Binds K (fdOf K ("_law_all_signs", none)) [] [] := FunD.bindsN T.F_law_all_signs fun _ _ _ _ _ _ us hl => match us, hl with | [], _ => rfl
theorem ok_law_all_signs (T : Tx P K mg) : FnOk P w K mg base CX0 1 (He.ga K "_law_all_signs") (fdOf K ("_law_all_signs", none)) [] (sp_law_all_signs K) := by
 refine FunD.ok T.F_law_all_signs sc_law_all_signs (fun vs H0 Q E h => ?_) (fun cdv A outer s H0 vs Q E hr h => ?_)
 ·
  obtain ⟨_, _, rfl, _⟩ := h
  rfl
 ·
  obtain ⟨F0, r, rfl, hE, hm, hQ⟩ := h
  refine ⟨_, PSs.nox ((pss_one (ps_ret pe_str))), ?_⟩
  have S : Sx P0 F0 H0 F0 H0 := Sx.refl0 hE
  unfold m_law_all_signs at hm
  cases hm
  refine rd_ret <| rd_c ?_
  exact hQ _ _ _ S rfl
def sp_law_text (K : PySem.W.Frag) : Sp := fun vs H Q _ => ∃ (F : Hp) (p_pool_here : Addr) (a_pool_here : Int × Int) (r : (Str × (Int × Int))), vs = [.ref p_pool_here] ∧ Same F H ∧ Ow (fun a => a = p_pool_here) H F H p_pool_here (.lst [.int a_pool_here.1, .int a_pool_here.2]) ∧ m_law_text a_pool_here = some r ∧ ∀ v F' H', Sx (fun a => a = p_pool_here) F H F' H' → Ow (fun a => a = p_pool_here) H F' H' p_pool_here (.lst [.int r.2.1, .int r.2.2]) → qS.r K F' v r.1 → Q v H'
theorem sc_law_text : FnScope ["_law_pool_here", "_law_text_here", "_law_style", "_law_k"] ["_law_pool_here"] (defScope s_law_text) := ⟨rfl, rfl, rfl, by decide +kernel, rfl, by decide +kernel, by decide +kernel⟩
theorem bn_law_text (T : Tx P K mg) : Binds K (fdOf K ("_law_text", none)) ["_law_pool_here"] [] := FunD.bindsN T.F_law_text fun _ _ _ _ _ _ us hl => match us, hl with | [_], _ => rfl
theorem ok_law_text (T : Tx P K mg) : FnOk P w K mg base CX0 2 (He.ga K "_law_text") (fdOf K ("_law_text", none)) ["_law_pool_here"] (sp_law_text K) := by
 refine FunD.ok T.F_law_text sc_law_text (fun vs H0 Q E h => ?_) (fun cdv A outer s H0 vs Q E hr h => ?_)
 ·
  obtain ⟨_, _, _, _, rfl, _⟩ := h
  rfl
 ·
  obtain ⟨F0, p_pool_here, a_pool_here, r, rfl, hE, w_pool_here, hm, hQ⟩ := h
  refine ⟨_, PSs.nox ((pss_cons (ps_set (i := 1) sc_law_text.nd rfl (dk rfl) pe_str) (pss_cons (ps_set (i := 2) sc_law_text.nd rfl (dk rfl) (pe_call (ok_law_take T) (hr.mono (by decide)) (by rfl) T.g_law_take T.F_law_take.kp (bn_law_take T) .nil pass0 (pa_cons (pv 0) (pa_cons pe_int pa_nil)))) (pss_cons (ps_for PassesOwn.never rfl (pi_range1 (by rfl) T.n_range (pa_cons (pe_op op_add pe_int (pe_call (ok_law_take T) (hr.mono (by decide)) (by rfl) T.g_law_take T.F_law_take.kp (bn_law_take T) .nil pass0 (pa_cons (pv 0) (pa_cons pe_int pa_nil)))) pa_nil)) (pg_name (i := 3) sc_law_text.nd rfl (dk rfl)) (pss_one (ps_if (pt_cmpR op_eqI (pv 2) pe_int (nomark _)) (pss_one (ps_set (i := 1) sc_law_text.nd rfl (dk rfl) (pe_op op_catS (pv 1) (pe_ix ix_str (pe_call0 (ok_law_all_signs T) (hr.mono (by decide)) (by rfl) T.g_law_all_signs T.F_law_all_signs.kp (bn_law_all_signs T) .nil pass0) (pe_call (ok_law_take T) (hr.mono (by decide)) (by rfl) T.g_law_take T.F_law_take.kp (bn_law_take T) .nil pass0 (pa_cons (pv 0) (pa_cons pe_int pa_nil))) (fun _ _ => rfl))))) (pss_one (ps_set (i := 1) sc_law_text.nd rfl (dk rfl) (pe_op op_catS (pv 1) (pe_ix ix_str pe_str (pe_call (ok_law_take T) (hr.mono (by decide)) (by rfl) T.g_law_take T.F_law_take.kp (bn_law_take T) .nil pass0 (pa_cons (pv 0) (pa_cons pe_int pa_nil))) (fun _ _ => rfl)))))))) (pss_one (ps_ret (pv 1))))))), ?_⟩
  have S : Sx (fun a => a = p_pool_here) F0 H0 F0 H0 := Sx.refl hE (live1 w_pool_here)
  unfold m_law_text at hm
  obtain ⟨t1, e2, hm⟩ := bd_some hm
  refine rd_seq <| rd_asg <| rd_c <| rd_gn <| rd_seq <| rd_asg <| rd_call <| rd_cons <| rd_v rfl <| rd_cons <| rd_c <| rd_nil ?_
  refine ⟨F0, _, _, _, t1, rfl, S.sub, w_pool_here.arg, e2, fun v6 F3 H4 c5 w8 f7 => ?_⟩
  have S9 := S.call1 c5 w_pool_here
  have w10 := w_pool_here.back w8
  cases (show v6 = (V.int (t1.1)) from f7)
  obtain ⟨t11, e12, hm⟩ := bd_some hm
  refine rd_gn <| rd_seq <| rd_for ?_
  refine rd_iR1 ?_
  refine rd_cons <| rd_op <| rd_c <| rd_call <| rd_cons <| rd_v rfl <| rd_cons <| rd_c <| rd_nil ?_
  refine ⟨F3, _, _, _, t11, rfl, S9.sub, w10.arg, e12, fun v16 F13 H14 c15 w18 f17 => ?_⟩
  have S19 := S9.call1 c15 w10
  have w20 := w10.back w18
  cases (show v16 = (V.int (t11.1)) from f17)
  obtain ⟨g21, hm⟩ := gd_some hm
  refine rd_I0 <| rd_nil ?_
  refine rd_r1 g21 ?_
  obtain ⟨t22, e23, hm⟩ := bd_some hm
  refine rd_forS feedsRg (typedR (K := K) (F := F13)) e23 (fun (s24 : ((Int × Int) × Str)) σ H => ∃ (F : Hp) (o3 : Option V), σ = [some (V.ref p_pool_here), some (V.str (s24.2)), some (V.int (t1.1)), o3] ∧ Sx (fun a => a = p_pool_here) F13 H14 F H ∧ Ow (fun a => a = p_pool_here) H14 F H p_pool_here (.lst [V.int s24.1.1, V.int s24.1.2])) ?_ ?_ ?_ ?_
  ·
   intro _ _ _ _; trivial
  ·
   have S26 : Sx (fun a => a = p_pool_here) _ _ _ _ := Sx.refl S19.sub (fun a z => by rw [z, w20.at_]; exact (fun h => nomatch h))
   have w27 : Ow (fun a => a = p_pool_here) H14 _ _ _ _ := ⟨w20.fr, w20.at_, .inr (rfl)⟩
   exact ⟨F13, _, rfl, S26, w27⟩
  ·
   rintro x28 v29 s30 c34 σ31 H32 f33 ⟨F35, o37, rfl, S36, w38⟩ hm41
   unfold m_law_text_b1 at hm41
   cases (show v29 = (V.int (x28)) from f33)
   refine rd_gn <| rd_ifS <| rd_test <| rd_op <| rd_v rfl <| rd_c <| rd_I0 <| rd_b ?_
   refine if_b hm41 (fun b42 hm41 => ?_) (fun b42 hm41 => ?_)
   ·
    obtain ⟨t43, e44, hm41⟩ := bd_some hm41
    refine rd_asg <| rd_op <| rd_v rfl <| rd_op <| rd_call <| rd_nil ?_
    refine ⟨F35, t43, rfl, S36.sub, e44, fun v48 F45 H46 c47 f49 => ?_⟩
    have S50 := S36.call0 c47
    have w38 := w38.call0 c47
    cases (show v48 = (V.str (t43)) from f49)
    obtain ⟨t51, e52, hm41⟩ := bd_some hm41
    refine rd_call <| rd_cons <| rd_v rfl <| rd_cons <| rd_c <| rd_nil ?_
    refine ⟨F45, _, _, _, t51, rfl, S50.sub, w38.arg, e52, fun v56 F53 H54 c55 w58 f57 => ?_⟩
    have S59 := S50.call1 c55 w38
    have w60 := w38.back w58
    cases (show v56 = (V.int (t51.1)) from f57)
    obtain ⟨t61, e62, hm41⟩ := bd_some hm41
    obtain ⟨g63, hm41⟩ := gd_some hm41
    cases hm41
    refine rd_ixS e62 ?_
    refine rd_catS g63 ?_
    refine rd_gn ?_
    exact ⟨F53, _, rfl, S59, w60⟩
   ·
    obtain ⟨t64, e65, hm41⟩ := bd_some hm41
    refine rd_asg <| rd_op <| rd_v rfl <| rd_op <| rd_c <| rd_call <| rd_cons <| rd_v rfl <| rd_cons <| rd_c <| rd_nil ?_
    refine ⟨F35, _, _, _, t64, rfl, S36.sub, w38.arg, e65, fun v69 F66 H67 c68 w71 f70 => ?_⟩
    have S72 := S36.call1 c68 w38
    have w73 := w38.back w71
    cases (show v69 = (V.int (t64.1)) from f70)
    obtain ⟨t74, e75, hm41⟩ := bd_some hm41
    obtain ⟨g76, hm41⟩ := gd_some hm41
    cases hm41
    refine rd_ixS e75 ?_
    refine rd_catS g76 ?_
    refine rd_gn ?_
    exact ⟨F66, _, rfl, S72, w73⟩
  ·
   rintro σ77 H78 ⟨F79, o81, rfl, S80, w82⟩
   have S83 := S19.call1 S80 w20
   have w84 : Ow (fun a => a = p_pool_here) H0 _ _ _ _ := ⟨w82.fr, w82.at_, w20.mine⟩
   cases hm
   refine rd_ret <| rd_v rfl ?_
   exact hQ _ _ _ S83 w84 rfl
def sp_law_parts (K : PySem.W.Frag) : Sp := fun vs H Q _ => ∃ (F : Hp) (p_pool_here : Addr) (a_pool_here : Int × Int) (r : ((List Str) × (Int × Int))), vs = [.ref p_pool_here] ∧ Same F H ∧ Ow (fun a => a = p_pool_here) H F H p_pool_here (.lst [.int a_pool_here.1, .int a_pool_here.2]) ∧ m_law_parts a_pool_here = some r ∧ ∀ v F' H', Sx (fun a => a = p_pool_here) F H F' H' → Ow (fun a => a = p_pool_here) H F' H' p_pool_here (.lst [.int r.2.1, .int r.2.2]) → (qL qS).r K F' v r.1 → Q v H'
theorem sc_law_parts : FnScope ["_law_pool_here", "_law_parts_here", "_law_k", "_law_kind", "_law_fixed"] ["_law_pool_here"] (defScope s_law_parts) := ⟨rfl, rfl, rfl, by decide +kernel, rfl, by decide +kernel, by decide +kernel⟩
theorem bn_law_parts (T : Tx P K mg) : Binds K (fdOf K ("_law_parts", none)) ["_law_pool_here"] [] := FunD.bindsN T.F_law_parts fun _ _ _ _ _ _ us hl => match us, hl with | [_], _ => rfl
theorem ok_law_parts (T : Tx P K mg) : FnOk P w K mg base CX0 3 (He.ga K "_law_parts") (fdOf K ("_law_parts", none)) ["_law_pool_here"] (sp_law_parts K) := by
 refine FunD.ok T.F_law_parts sc_law_parts (fun vs H0 Q E h => ?_) (fun cdv A outer s H0 vs Q E hr h => ?_)
 ·
  obtain ⟨_, _, _, _, rfl, _⟩ := h
  rfl
 ·
  obtain ⟨F0, p_pool_here, a_pool_here, r, rfl, hE, w_pool_here, hm, hQ⟩ := h
  refine ⟨_, PSs.nox ((pss_cons (ps_set (i := 1) sc_law_parts.nd rfl (dk rfl) (pe_lst pa_nil)) (pss_cons (ps_for PassesOwn.never rfl (pi_range1 (by rfl) T.n_range (pa_cons (pe_op op_add pe_int (pe_call (ok_law_take T) (hr.mono (by decide)) (by rfl) T.g_law_take T.F_law_take.kp (bn_law_take T) .nil pass0 (pa_cons (pv 0) (pa_cons pe_int pa_nil)))) pa_nil)) (pg_name (i := 2) sc_law_parts.nd rfl (dk rfl)) (pss_cons (ps_set (i := 3) sc_law_parts.nd rfl (dk rfl) (pe_call (ok_law_take T) (hr.mono (by decide)) (by rfl) T.g_law_take T.F_law_take.kp (bn_law_take T) .nil pass0 (pa_cons (pv 0) (pa_cons pe_int pa_nil)))) (pss_cons (ps_set (i := 4) sc_law_parts.nd rfl (dk rfl) (pe_and (pe_cmpR (r := rNeD K) (op_neD hr.units) (pv 1) (pe_lst pa_nil) (nomark _)) (pe_one (pe_cmpR (r := rIn K true) op_notIn_seq (pe_ix (r := rIxL K) ix_list (pv 1) (pe_un un_neg pe_int) (fun _ _ => rfl)) (pe_tup (pa_cons pe_str (pa_cons pe_str (pa_cons pe_str pa_nil)))) rfl)))) (pss_one (ps_if (PW.pt (pw_and (pt_cmpR op_eqI (pv 3) pe_int (nomark _)) (pw_and1 (pt_cmpR (r := rIn K true) op_notIn_seq pe_str (pv 1) rfl)))) (pss_one (ps_expr (pe_bmK (K := K) PySem.F.plainAttrs_list PySem.F.slot_list_append PySem.F.type_list_append mt_append (pv 1) (pa_cons pe_str pa_nil)))) (pss_one (ps_if (pt_cmpR op_eqI (pv 3) pe_int (nomark _)) (pss_one (ps_expr (pe_bmK (K := K) PySem.F.plainAttrs_list PySem.F.slot_list_append PySem.F.type_list_append mt_append (pv 1) (pa_cons pe_str pa_nil)))) (pss_one (ps_if (PW.pt (pw_or (pt_cmpR op_eqI (pv 3) pe_int (nomark _)) (pw_or1 (pt_val (pv 4))))) (pss_one (ps_expr (pe_bmK (K := K) PySem.F.plainAttrs_list PySem.F.slot_list_append PySem.F.type_list_append mt_append (pv 1) (pa_cons pe_str pa_nil)))) (pss_one (ps_expr (pe_bmK (K := K) PySem.F.plainAttrs_list PySem.F.slot_list_append PySem.F.type_list_append mt_append (pv 1) (pa_cons (pe_call (ok_law_text T) (hr.mono (by decide)) (by rfl) T.g_law_text T.F_law_text.kp (bn_law_text T) .nil pass0 (pa_cons (pv 0) pa_nil)) pa_nil))))))))))))) (pss_one (ps_ret (pv 1)))))), ?_⟩
  have S : Sx (fun a => a = p_pool_here) F0 H0 F0 H0 := Sx.refl hE (live1 w_pool_here)
  unfold m_law_parts at hm
  refine rd_seq <| rd_asg <| rd_lst <| rd_nil <| rd_lK rfl ?_
  refine al S (fun p1 H2 np3 c4 w5 => ?_)
  have r6 : Row qS K F0 [] ([] : List Str) := .nil
  have ne7 : p_pool_here ≠ p1 := w_pool_here.ne np3
  have z8 := S.free0 np3
  have S9 := S.call0 c4
  have w_pool_here := w_pool_here.call0 c4
  obtain ⟨t10, e11, hm⟩ := bd_some hm
  refine rd_gn <| rd_seq <| rd_for ?_
  refine rd_iR1 ?_
  refine rd_cons <| rd_op <| rd_c <| rd_call <| rd_cons <| rd_v rfl <| rd_cons <| rd_c <| rd_nil ?_
  refine ⟨F0, _, _, _, t10, rfl, S9.sub, w_pool_here.arg, e11, fun v15 F12 H13 c14 w17 f16 => ?_⟩
  have S18 := S9.call1 c14 w_pool_here
  have r6 := Row.mono c14.le r6
  have w5 := w5.call c14 (by intro z; exact (Ne.symm ne7) z)
  have w19 := w_pool_here.back w17
  cases (show v15 = (V.int (t10.1)) from f16)
  obtain ⟨g20, hm⟩ := gd_some hm
  refine rd_I0 <| rd_nil ?_
  refine rd_r1 g20 ?_
  obtain ⟨t21, e22, hm⟩ := bd_some hm
  refine rd_forS feedsRg (typedR (K := K) (F := F12)) e22 (fun (s23 : ((Int × Int) × (List Str))) σ H => ∃ (F : Hp) (o2 : Option V) (o3 : Option V) (o4 : Option V) (vs1 : List V), σ = [some (V.ref p_pool_here), some (V.ref p1), o2, o3, o4] ∧ Sx (fun a => a = p_pool_here ∨ a = p1) F12 H13 F H ∧ Ow (fun a => a = p_pool_here ∨ a = p1) H13 F H p_pool_here (.lst [V.int s23.1.1, V.int s23.1.2]) ∧ Ow (fun a => a = p_pool_here ∨ a = p1) H13 F H p1 (.lst vs1) ∧ Row qS K F vs1 s23.2) ?_ ?_ ?_ ?_
  ·
   intro _ _ _ _; trivial
  ·
   have S25 : Sx (fun a => a = p_pool_here ∨ a = p1) _ _ _ _ := Sx.refl S18.sub (by
     rintro a (rfl | rfl)
     ·
      rw [w19.at_]; exact (fun h => nomatch h)
     ·
      rw [w5.at_]; exact (fun h => nomatch h))
   have w26 : Ow (fun a => a = p_pool_here ∨ a = p1) H13 _ _ _ _ := ⟨w19.fr, w19.at_, .inr (Or.inl rfl)⟩
   have w27 : Ow (fun a => a = p_pool_here ∨ a = p1) H13 _ _ _ _ := ⟨w5.fr, w5.at_, .inr (Or.inr (rfl))⟩
   exact ⟨F12, _, _, _, _, rfl, S25, w26, w27, r6⟩
  ·
   rintro x28 v29 s30 c34 σ31 H32 f33 ⟨F35, o37, o38, o39, v40, rfl, S36, w41, w42, r43⟩ hm46
   unfold m_law_parts_b1 at hm46
   cases (show v29 = (V.int (x28)) from f33)
   obtain ⟨t47, e48, hm46⟩ := bd_some hm46
   refine rd_gn <| rd_seq <| rd_asg <| rd_call <| rd_cons <| rd_v rfl <| rd_cons <| rd_c <| rd_nil ?_
   refine ⟨F35, _, _, _, t47, rfl, S36.sub, w41.arg, e48, fun v52 F49 H50 c51 w54 f53 => ?_⟩
   have S55 := S36.call1 c51 w41
   have r43 := Row.mono c51.le r43
   have w42 := w42.call c51 (by intro z; exact (Ne.symm ne7) z)
   have w56 := w41.back w54
   cases (show v52 = (V.int (t47.1)) from f53)
   refine rd_gn <| rd_seq <| rd_asg <| rd_andV <| rd_op <| rd_v rfl <| rd_lst <| rd_nil <| rd_lK rfl ?_
   refine alL (K := K) (A := qS) (xs := ([] : List Str)) S55 .nil (fun v57 F58 H59 c60 f61 => ?_)
   have S62 := S55.call0 c60
   have r43 := Row.mono c60.le r43
   obtain ⟨w56, w42⟩ := wup2 w56 w42 c60
   obtain ⟨g63, hm46⟩ := gd_some hm46
   obtain ⟨g64, hm46⟩ := gd_some hm46
   obtain ⟨t75, e76, hm46⟩ := bd_some hm46
   refine rd_neD (D := (dL dS)) (w42.dS S62.sub dS r43) (S62.d (dL dS) f61) g63 g64 ?_
   refine rd_b ?_
   refine andV_j (fun c H' => c = V.bl t75 ∧ ∃ F', Sx P0 F58 H59 F' H') ?_ ?_ ?_
   ·
    intro b77 Q78 q79
    have e76 := if_t e76 b77
    have S80 := Sx.refl0 S62.sub
    obtain ⟨t81, e82, e76⟩ := bd_some e76
    refine rd_op <| rd_op <| rd_v rfl <| rd_un <| rd_c <| rd_U ?_
    refine rd_ixL (w42.l r43).r e82 (fun u83 f84 => ?_)
    cases (show u83 = (V.str (t81)) from f84)
    refine rd_tup <| rd_cons <| rd_c <| rd_cons <| rd_c <| rd_cons <| rd_c <| rd_nil <| rd_uK rfl ?_
    refine alT (K := K) (A := qS) (xs := [("<any>" : Str), ("<digits>" : Str), ("<word>" : Str)]) S80 (.cons rfl (.cons rfl (.cons rfl .nil))) (fun v85 F86 H87 c88 f89 => ?_)
    have S90 := S80.call0 c88
    have r43 := Row.mono c88.le r43
    obtain ⟨w56, w42⟩ := wup2 w56 w42 c88
    cases e76
    refine rd_niS (S90.t f89).q ?_
    exact q79 _ _ ⟨rfl, F86, S90⟩
   ·
    intro b77
    have e76 := if_f e76 b77
    cases e76
    have S91 := Sx.refl0 S62.sub
    exact ⟨rfl, F58, S91⟩
   rintro b95 H93 ⟨rfl, F92, c94⟩
   have S96 := S62.call0 c94
   have r43 := Row.mono c94.le r43
   obtain ⟨w56, w42⟩ := wup2 w56 w42 c94
   refine rd_gn <| rd_ifS <| rd_and <| rd_test <| rd_op <| rd_v rfl <| rd_c <| rd_I0 <| rd_b ?_
   refine and_p (by intro _ Q' q; refine rd_test ?_; refine rd_op ?_; refine rd_c ?_; refine rd_v rfl ?_; refine rd_niS (w42.l r43).r.q ?_; refine rd_b ?_; exact q) ?_
   refine if_b hm46 (fun b97 hm46 => ?_) (fun b97 hm46 => ?_)
   ·
    obtain ⟨g98, hm46⟩ := gd_some hm46
    refine rd_drop <| rd_bm <| rd_v rfl <| rd_ty w42.ty <| rd_cons <| rd_c <| rd_nil ?_
    refine ap S96 w42 r43 g98 (fun H99 c100 w101 => ?_)
    have r102 := r43.snoc (show qS.r K F92 _ ("<any>" : Str) from rfl)
    have S103 := S96.call1 c100 w42
    have w56 := w56.call c100 (by intro z; exact ne7 z)
    have r102 := Row.mono c100.le r102
    cases hm46
    exact ⟨F92, _, _, _, _, rfl, S103, w56, w101, r102⟩
   ·
    refine rd_ifS <| rd_test <| rd_op <| rd_v rfl <| rd_c <| rd_I0 <| rd_b ?_
    refine if_b hm46 (fun b104 hm46 => ?_) (fun b104 hm46 => ?_)
    ·
     obtain ⟨g105, hm46⟩ := gd_some hm46
     refine rd_drop <| rd_bm <| rd_v rfl <| rd_ty w42.ty <| rd_cons <| rd_c <| rd_nil ?_
     refine ap S96 w42 r43 g105 (fun H106 c107 w108 => ?_)
     have r109 := r43.snoc (show qS.r K F92 _ ("<digits>" : Str) from rfl)
     have S110 := S96.call1 c107 w42
     have w56 := w56.call c107 (by intro z; exact ne7 z)
     have r109 := Row.mono c107.le r109
     cases hm46
     exact ⟨F92, _, _, _, _, rfl, S110, w56, w108, r109⟩
    ·
     refine rd_ifS <| rd_or <| rd_test <| rd_op <| rd_v rfl <| rd_c <| rd_I0 <| rd_b ?_
     refine or_p (by intro _ Q' q; refine rd_tB ?_; refine rd_v rfl ?_; refine rd_b ?_; exact q) ?_
     refine if_b hm46 (fun b111 hm46 => ?_) (fun b111 hm46 => ?_)
     ·
      obtain ⟨g112, hm46⟩ := gd_some hm46
      refine rd_drop <| rd_bm <| rd_v rfl <| rd_ty w42.ty <| rd_cons <| rd_c <| rd_nil ?_
      refine ap S96 w42 r43 g112 (fun H113 c114 w115 => ?_)
      have r116 := r43.snoc (show qS.r K F92 _ ("<word>" : Str) from rfl)
      have S117 := S96.call1 c114 w42
      have w56 := w56.call c114 (by intro z; exact ne7 z)
      have r116 := Row.mono c114.le r116
      cases hm46
      exact ⟨F92, _, _, _, _, rfl, S117, w56, w115, r116⟩
     ·
      obtain ⟨t118, e119, hm46⟩ := bd_some hm46
      refine rd_drop <| rd_bm <| rd_v rfl <| rd_ty w42.ty <| rd_cons <| rd_call <| rd_cons <| rd_v rfl <| rd_nil ?_
      refine ⟨F92, _, _, t118, rfl, S96.sub, w56.arg, e119, fun v123 F120 H121 c122 w125 f124 => ?_⟩
      have S126 := S96.call1 c122 w56
      have r43 := Row.mono c122.le r43
      have w42 := w42.call c122 (by intro z; exact (Ne.symm ne7) z)
      have w127 := w56.back w125
      cases (show v123 = (V.str (t118.1)) from f124)
      obtain ⟨g128, hm46⟩ := gd_some hm46
      refine rd_nil ?_
      refine ap S126 w42 r43 g128 (fun H129 c130 w131 => ?_)
      have r132 := r43.snoc (show qS.r K F120 _ t118.1 from rfl)
      have S133 := S126.call1 c130 w42
      have w127 := w127.call c130 (by intro z; exact ne7 z)
      have r132 := Row.mono c130.le r132
      cases hm46
      exact ⟨F120, _, _, _, _, rfl, S133, w127, w131, r132⟩
  ·
   rintro σ134 H135 ⟨F136, o138, o139, o140, v141, rfl, S137, w142, w143, r144⟩
   have S145 := S18.call S137 (by
     rintro a (rfl | rfl)
     ·
      exact w19.mine.symm
     ·
      exact w5.mine.symm)
   have w146 : Ow (fun a => a = p_pool_here) H0 _ _ _ _ := ⟨w142.fr, w142.at_, w19.mine⟩
   have w147 : Ow (fun a => a = p_pool_here) H0 _ _ _ _ := ⟨w143.fr, w143.at_, w5.mine⟩
   obtain ⟨F148, S149, le150, f151, _, eq152⟩ := fz S145 w147 z8 r144
   have w146 := w146.fzO ne7 eq152
   cases hm
   refine rd_ret <| rd_v rfl ?_
   exact hQ _ _ _ S149 w146 f151
def sp_law_tree (K : PySem.W.Frag) : Sp := fun vs H Q _ => ∃ (F : Hp) (p_pool_here : Addr) (a_pool_here : Int × Int) (r : (τ4ₓ × (Int × Int))), vs = [.ref p_pool_here] ∧ Same F H ∧ Ow (fun a => a = p_pool_here) H F H p_pool_here (.lst [.int a_pool_here.1, .int a_pool_here.2]) ∧ m_law_tree a_pool_here = some r ∧ ∀ v F' H', Sx (fun a => a = p_pool_here) F H F' H' → Ow (fun a => a = p_pool_here) H F' H' p_pool_here (.lst [.int r.2.1, .int r.2.2]) → τ0ₓ.r K F' v r.1 → Q v H'
theorem sc_law_tree : FnScope ["_law_pool_here", "_law_kind"] ["_law_pool_here"] (defScope s_law_tree) := ⟨rfl, rfl, rfl, by decide +kernel, rfl, by decide +kernel, by decide +kernel⟩
theorem bn_law_tree (T : Tx P K mg) : Binds K (fdOf K ("_law_tree", none)) ["_law_pool_here"] [] := FunD.bindsN T.F_law_tree fun _ _ _ _ _ _ us hl => match us, hl with | [_], _ => rfl
theorem ok_law_tree (T : Tx P K mg) : FnOk P w K mg base CX0 4 (He.ga K "_law_tree") (fdOf K ("_law_tree", none)) ["_law_pool_here"] (sp_law_tree K) := by
 refine FunD.ok T.F_law_tree sc_law_tree (fun vs H0 Q E h => ?_) (fun cdv A outer s H0 vs Q E hr h => ?_)
 ·
  obtain ⟨_, _, _, _, rfl, _⟩ := h
  rfl
 ·
  obtain ⟨F0, p_pool_here, a_pool_here, r, rfl, hE, w_pool_here, hm, hQ⟩ := h
  refine ⟨_, PSs.nox ((pss_cons (ps_set (i := 1) sc_law_tree.nd rfl (dk rfl) (pe_call (ok_law_take T) (hr.mono (by decide)) (by rfl) T.g_law_take T.F_law_take.kp (bn_law_take T) .nil pass0 (pa_cons (pv 0) (pa_cons pe_int pa_nil)))) (pss_cons (ps_if (pt_cmpR op_eqI (pv 1) pe_int (nomark _)) (pss_one (ps_ret (pe_lst (pa_cons pe_str (pa_cons (pe_call (ok_law_parts T) (hr.mono (by decide)) (by rfl) T.g_law_parts T.F_law_parts.kp (bn_law_parts T) .nil pass0 (pa_cons (pv 0) pa_nil)) (pa_cons (pe_call (ok_law_parts T) (hr.mono (by decide)) (by rfl) T.g_law_parts T.F_law_parts.kp (bn_law_parts T) .nil pass0 (pa_cons (pv 0) pa_nil)) pa_nil)))))) pss_nil) (pss_cons (ps_if (pt_cmpR op_eqI (pv 1) pe_int (nomark _)) (pss_one (ps_ret (pe_lst (pa_cons pe_str (pa_cons (pe_lst (pa_cons (pe_call (ok_law_text T) (hr.mono (by decide)) (by rfl) T.g_law_text T.F_law_text.kp (bn_law_text T) .nil pass0 (pa_cons (pv 0) pa_nil)) (pa_cons pe_str pa_nil))) (pa_cons (pe_lst (pa_cons pe_str (pa_cons (pe_call (ok_law_text T) (hr.mono (by decide)) (by rfl) T.g_law_text T.F_law_text.kp (bn_law_text T) .nil pass0 (pa_cons (pv 0) pa_nil)) pa_nil))) pa_nil)))))) pss_nil) (pss_cons (ps_if (pt_cmpR op_eqI (pv 1) pe_int (nomark _)) (pss_one (ps_ret (pe_lst (pa_cons pe_str (pa_cons (pe_call (ok_law_parts T) (hr.mono (by decide)) (by rfl) T.g_law_parts T.F_law_parts.kp (bn_law_parts T) .nil pass0 (pa_cons (pv 0) pa_nil)) (pa_cons (pe_lst (pa_cons pe_str pa_nil)) pa_nil)))))) pss_nil) (pss_one (ps_ret (pe_lst (pa_cons pe_str (pa_cons (pe_call (ok_law_parts T) (hr.mono (by decide)) (by rfl) T.g_law_parts T.F_law_parts.kp (bn_law_parts T) .nil pass0 (pa_cons (pv 0) pa_nil)) (pa_cons (pe_lst pa_nil) pa_nil))))))))))), ?_⟩
  have S : Sx (fun a => a = p_pool_here) F0 H0 F0 H0 := Sx.refl hE (live1 w_pool_here)
  unfold m_law_tree at hm
  obtain ⟨t1, e2, hm⟩ := bd_some hm
  refine rd_seq <| rd_asg <| rd_call <| rd_cons <| rd_v rfl <| rd_cons <| rd_c <| rd_nil ?_
  refine ⟨F0, _, _, _, t1, rfl, S.sub, w_pool_here.arg, e2, fun v6 F3 H4 c5 w8 f7 => ?_⟩
  have S9 := S.call1 c5 w_pool_here
  have w10 := w_pool_here.back w8
  cases (show v6 = (V.int (t1.1)) from f7)
  refine rd_gn <| rd_seq <| rd_ifS <| rd_test <| rd_op <| rd_v rfl <| rd_c <| rd_I0 <| rd_b ?_
  refine if_b hm (fun b11 hm => ?_) (fun b11 hm => ?_)
  ·
   obtain ⟨t12, e13, hm⟩ := bd_some hm
   refine rd_ret <| rd_lst <| rd_cons <| rd_c <| rd_cons <| rd_call <| rd_cons <| rd_v rfl <| rd_nil ?_
   refine ⟨F3, _, _, t12, rfl, S9.sub, w10.arg, e13, fun v17 F14 H15 c16 w19 f18 => ?_⟩
   have S20 := S9.call1 c16 w10
   have w21 := w10.back w19
   obtain ⟨t22, e23, hm⟩ := bd_some hm
   refine rd_cons <| rd_call <| rd_cons <| rd_v rfl <| rd_nil ?_
   refine ⟨F14, _, _, t22, rfl, S20.sub, w21.arg, e23, fun v27 F24 H25 c26 w29 f28 => ?_⟩
   have S30 := S20.call1 c26 w21
   have f18 := f18.up c26
   have w31 := w21.back w29
   refine rd_nil <| rd_lK rfl ?_
   refine alLr (K := K) (B := (fc qS (fc (qL qS) (f1 (qL qS))))) (a := (("|" : Str), t12.1, t22.1)) S30 ⟨_, _, rfl, rfl, _, _, rfl, f18, _, rfl, f28⟩ (fun v32 F33 H34 c35 f36 => ?_)
   have S37 := S30.call0 c35
   have w31 := w31.call0 c35
   cases hm
   exact hQ _ _ _ S37 w31 f36
  ·
   refine rd_next <| rd_seq <| rd_ifS <| rd_test <| rd_op <| rd_v rfl <| rd_c <| rd_I0 <| rd_b ?_
   refine if_b hm (fun b38 hm => ?_) (fun b38 hm => ?_)
   ·
    obtain ⟨t39, e40, hm⟩ := bd_some hm
    refine rd_ret <| rd_lst <| rd_cons <| rd_c <| rd_cons <| rd_lst <| rd_cons <| rd_call <| rd_cons <| rd_v rfl <| rd_nil ?_
    refine ⟨F3, _, _, t39, rfl, S9.sub, w10.arg, e40, fun v44 F41 H42 c43 w46 f45 => ?_⟩
    have S47 := S9.call1 c43 w10
    have w48 := w10.back w46
    cases (show v44 = (V.str (t39.1)) from f45)
    refine rd_cons <| rd_c <| rd_nil <| rd_lK rfl ?_
    refine alL (K := K) (A := qS) (xs := [t39.1, ("<any>" : Str)]) S47 (.cons rfl (.cons rfl .nil)) (fun v49 F50 H51 c52 f53 => ?_)
    have S54 := S47.call0 c52
    have w48 := w48.call0 c52
    obtain ⟨t55, e56, hm⟩ := bd_some hm
    refine rd_cons <| rd_lst <| rd_cons <| rd_c <| rd_cons <| rd_call <| rd_cons <| rd_v rfl <| rd_nil ?_
    refine ⟨F50, _, _, t55, rfl, S54.sub, w48.arg, e56, fun v60 F57 H58 c59 w62 f61 => ?_⟩
    have S63 := S54.call1 c59 w48
    have f53 := f53.up c59
    have w64 := w48.back w62
    cases (show v60 = (V.str (t55.1)) from f61)
    refine rd_nil <| rd_lK rfl ?_
    refine alL (K := K) (A := qS) (xs := [("<any>" : Str), t55.1]) S63 (.cons rfl (.cons rfl .nil)) (fun v65 F66 H67 c68 f69 => ?_)
    have S70 := S63.call0 c68
    have f53 := f53.up c68
    have w64 := w64.call0 c68
    refine rd_nil <| rd_lK rfl ?_
    refine alLr (K := K) (B := (fc qS (fc (qL qS) (f1 (qL qS))))) (a := (("&" : Str), [t39.1, ("<any>" : Str)], [("<any>" : Str), t55.1])) S70 ⟨_, _, rfl, rfl, _, _, rfl, f53, _, rfl, f69⟩ (fun v71 F72 H73 c74 f75 => ?_)
    have S76 := S70.call0 c74
    have w64 := w64.call0 c74
    cases hm
    exact hQ _ _ _ S76 w64 f75
   ·
    refine rd_next <| rd_seq <| rd_ifS <| rd_test <| rd_op <| rd_v rfl <| rd_c <| rd_I0 <| rd_b ?_
    refine if_b hm (fun b77 hm => ?_) (fun b77 hm => ?_)
    ·
     obtain ⟨t78, e79, hm⟩ := bd_some hm
     refine rd_ret <| rd_lst <| rd_cons <| rd_c <| rd_cons <| rd_call <| rd_cons <| rd_v rfl <| rd_nil ?_
     refine ⟨F3, _, _, t78, rfl, S9.sub, w10.arg, e79, fun v83 F80 H81 c82 w85 f84 => ?_⟩
     have S86 := S9.call1 c82 w10
     have w87 := w10.back w85
     refine rd_cons <| rd_lst <| rd_cons <| rd_c <| rd_nil <| rd_lK rfl ?_
     refine alL (K := K) (A := qS) (xs := [("<any>" : Str)]) S86 (.cons rfl .nil) (fun v88 F89 H90 c91 f92 => ?_)
     have S93 := S86.call0 c91
     have f84 := f84.up c91
     have w87 := w87.call0 c91
     refine rd_nil <| rd_lK rfl ?_
     refine alLr (K := K) (B := (fc qS (fc (qL qS) (f1 (qL qS))))) (a := (("&" : Str), t78.1, [("<any>" : Str)])) S93 ⟨_, _, rfl, rfl, _, _, rfl, f84, _, rfl, f92⟩ (fun v94 F95 H96 c97 f98 => ?_)
     have S99 := S93.call0 c97
     have w87 := w87.call0 c97
     cases hm
     exact hQ _ _ _ S99 w87 f98
    ·
     obtain ⟨t100, e101, hm⟩ := bd_some hm
     refine rd_next <| rd_ret <| rd_lst <| rd_cons <| rd_c <| rd_cons <| rd_call <| rd_cons <| rd_v rfl <| rd_nil ?_
     refine ⟨F3, _, _, t100, rfl, S9.sub, w10.arg, e101, fun v105 F102 H103 c104 w107 f106 => ?_⟩
     have S108 := S9.call1 c104 w10
     have w109 := w10.back w107
     refine rd_cons <| rd_lst <| rd_nil <| rd_lK rfl ?_
     refine alL (K := K) (A := qS) (xs := ([] : List Str)) S108 .nil (fun v110 F111 H112 c113 f114 => ?_)
     have S115 := S108.call0 c113
     have f106 := f106.up c113
     have w109 := w109.call0 c113
     refine rd_nil <| rd_lK rfl ?_
     refine alLr (K := K) (B := (fc qS (fc (qL qS) (f1 (qL qS))))) (a := (("=" : Str), t100.1, ([] : List Str))) S115 ⟨_, _, rfl, rfl, _, _, rfl, f106, _, rfl, f114⟩ (fun v116 F117 H118 c119 f120 => ?_)
     have S121 := S115.call0 c119
     have w109 := w109.call0 c119
     cases hm
     exact hQ _ _ _ S121 w109 f120
def sp_law_rule (K : PySem.W.Frag) : Sp := fun vs H Q _ => ∃ (F : Hp) (p_pool_here : Addr) (a_pool_here : Int × Int) (r : (τ1ₓ × (Int × Int))), vs = [.ref p_pool_here] ∧ Same F H ∧ Ow (fun a => a = p_pool_here) H F H p_pool_here (.lst [.int a_pool_here.1, .int a_pool_here.2]) ∧ m_law_rule a_pool_here = some r ∧ ∀ v F' H', Sx (fun a => a = p_pool_here) F H F' H' → Ow (fun a => a = p_pool_here) H F' H' p_pool_here (.lst [.int r.2.1, .int r.2.2]) → (qLr τ2ₓ).r K F' v r.1 → Q v H'
theorem sc_law_rule : FnScope ["_law_pool_here", "_law_begins", "_law_ends_here", "_law_cap", "_law_limit", "_law_k"] ["_law_pool_here"] (defScope s_law_rule) := ⟨rfl, rfl, rfl, by decide +kernel, rfl, by decide +kernel, by decide +kernel⟩
theorem bn_law_rule (T : Tx P K mg) : Binds K (fdOf K ("_law_rule", none)) ["_law_pool_here"] [] := FunD.bindsN T.F_law_rule fun _ _ _ _ _ _ us hl => match us, hl with | [_], _ => rfl
theorem ok_law_rule (T : Tx P K mg) : FnOk P w K mg base CX0 5 (He.ga K "_law_rule") (fdOf K ("_law_rule", none)) ["_law_pool_here"] (sp_law_rule K) := by
 refine FunD.ok T.F_law_rule sc_law_rule (fun vs H0 Q E h => ?_) (fun cdv A outer s H0 vs Q E hr h => ?_)
 ·
  obtain ⟨_, _, _, _, rfl, _⟩ := h
  rfl
 ·
  obtain ⟨F0, p_pool_here, a_pool_here, r, rfl, hE, w_pool_here, hm, hQ⟩ := h
  refine ⟨_, PSs.nox ((pss_cons (ps_setLc (i := 1) (own := [("_law_k", 5)]) (tt := tYes) rfl sc_law_rule.nd rfl rfl (sw_true rfl rfl rfl (by decide +kernel)) (pi_range1 (by rfl) T.n_range (pa_cons (pe_call (ok_law_take T) (hr.mono (by decide)) (by rfl) T.g_law_take T.F_law_take.kp (bn_law_take T) .nil pass0 (pa_cons (pv 0) (pa_cons pe_int pa_nil))) pa_nil)) (blkOk_by (N := ["_law_pool_here", "_law_begins", "_law_ends_here", "_law_cap", "_law_limit", "_law_k"]) (sc := defScope s_law_rule) (by decide +kernel)) (fun _ _ _ _ _ => pg_name (i := 5) sc_law_rule.nd rfl (Or.inl rfl)) (fun _ _ _ _ _ => pts_nil) (fun _ _ _ _ _ => (pe_call (ok_law_tree T) (hr.mono (by decide)) (by rfl) T.g_law_tree T.F_law_tree.kp (bn_law_tree T) .nil pass0 (pa_cons (pv 0) pa_nil)))) (pss_cons (ps_setLc (i := 2) (own := [("_law_k", 5)]) (tt := tYes) rfl sc_law_rule.nd rfl rfl (sw_true rfl rfl rfl (by decide +kernel)) (pi_range1 (by rfl) T.n_range (pa_cons (pe_call (ok_law_take T) (hr.mono (by decide)) (by rfl) T.g_law_take T.F_law_take.kp (bn_law_take T) .nil pass0 (pa_cons (pv 0) (pa_cons pe_int pa_nil))) pa_nil)) (blkOk_by (N := ["_law_pool_here", "_law_begins", "_law_ends_here", "_law_cap", "_law_limit", "_law_k"]) (sc := defScope s_law_rule) (by decide +kernel)) (fun _ _ _ _ _ => pg_name (i := 5) sc_law_rule.nd rfl (Or.inl rfl)) (fun _ _ _ _ _ => pts_nil) (fun _ _ _ _ _ => (pe_call (ok_law_tree T) (hr.mono (by decide)) (by rfl) T.g_law_tree T.F_law_tree.kp (bn_law_tree T) .nil pass0 (pa_cons (pv 0) pa_nil)))) (pss_cons (ps_set (i := 3) sc_law_rule.nd rfl (dk rfl) (pe_ix (r := rIxL K) ix_list (pe_lst (pa_cons pe_non (pa_cons (pe_op op_add pe_int (pe_call (ok_law_take T) (hr.mono (by decide)) (by rfl) T.g_law_take T.F_law_take.kp (bn_law_take T) .nil pass0 (pa_cons (pv 0) (pa_cons pe_int pa_nil)))) (pa_cons (pe_op op_add pe_int (pe_call (ok_law_take T) (hr.mono (by decide)) (by rfl) T.g_law_take T.F_law_take.kp (bn_law_take T) .nil pass0 (pa_cons (pv 0) (pa_cons pe_int pa_nil)))) pa_nil)))) (pe_call (ok_law_take T) (hr.mono (by decide)) (by rfl) T.g_law_take T.F_law_take.kp (bn_law_take T) .nil pass0 (pa_cons (pv 0) (pa_cons pe_int pa_nil))) (fun _ _ => rfl))) (pss_cons (ps_set (i := 4) sc_law_rule.nd rfl (dk rfl) (pe_ix (r := rIxL K) ix_list (pe_lst (pa_cons pe_non (pa_cons (pe_call (ok_law_take T) (hr.mono (by decide)) (by rfl) T.g_law_take T.F_law_take.kp (bn_law_take T) .nil pass0 (pa_cons (pv 0) (pa_cons pe_int pa_nil))) (pa_cons (pe_call (ok_law_take T) (hr.mono (by decide)) (by rfl) T.g_law_take T.F_law_take.kp (bn_law_take T) .nil pass0 (pa_cons (pv 0) (pa_cons pe_int pa_nil))) pa_nil)))) (pe_call (ok_law_take T) (hr.mono (by decide)) (by rfl) T.g_law_take T.F_law_take.kp (bn_law_take T) .nil pass0 (pa_cons (pv 0) (pa_cons pe_int pa_nil))) (fun _ _ => rfl))) (pss_one (ps_ret (pe_lst (pa_cons (pv 1) (pa_cons (pv 2) (pa_cons (pv 3) (pa_cons (pe_cmpR op_gt (pe_call (ok_law_take T) (hr.mono (by decide)) (by rfl) T.g_law_take T.F_law_take.kp (bn_law_take T) .nil pass0 (pa_cons (pv 0) (pa_cons pe_int pa_nil))) pe_int (nomark _)) (pa_cons (pv 4) (pa_cons (pe_cmpR op_eqI (pe_call (ok_law_take T) (hr.mono (by decide)) (by rfl) T.g_law_take T.F_law_take.kp (bn_law_take T) .nil pass0 (pa_cons (pv 0) (pa_cons pe_int pa_nil))) pe_int (nomark _)) pa_nil)))))))))))))), ?_⟩
  have S : Sx (fun a => a = p_pool_here) F0 H0 F0 H0 := Sx.refl hE (live1 w_pool_here)
  unfold m_law_rule at hm
  obtain ⟨t1, e2, hm⟩ := bd_some hm
  refine rd_seq <| rd_asg <| rd_lc ?_
  refine rd_iR1 ?_
  refine rd_cons <| rd_call <| rd_cons <| rd_v rfl <| rd_cons <| rd_c <| rd_nil ?_
  refine ⟨F0, _, _, _, t1, rfl, S.sub, w_pool_here.arg, e2, fun v6 F3 H4 c5 w8 f7 => ?_⟩
  have S9 := S.call1 c5 w_pool_here
  have w10 := w_pool_here.back w8
  cases (show v6 = (V.int (t1.1)) from f7)
  obtain ⟨g11, hm⟩ := gd_some hm
  refine rd_nil ?_
  refine rd_r1 g11 ?_
  obtain ⟨g12, hm⟩ := gd_some hm
  obtain ⟨t13, e14, hm⟩ := bd_some hm
  refine rd_comp (B := τ0ₓ) feedsRg (typedR (K := K) (F := F3)) e14 g12 (Pc := (fun a => a = p_pool_here)) (fun a z => by rw [z, w10.at_]; exact (fun h => nomatch h)) S9.sub (fun (s15 : (Int × Int)) F H => Ow (fun a => a = p_pool_here) H4 F H p_pool_here (.lst [V.int s15.1, V.int s15.2])) ?_ ?_ ?_ ?_ ?_ ?_
  ·
   intro _ _ _ _ _; trivial
  ·
   exact ⟨w10.fr, w10.at_, .inr rfl⟩
  ·
   intro s F H q o w _ hq; exact w.temp hq
  ·
   intro s F H q u o w h0 hq; exact w.putO (ne_of_none w10.at_ h0)
  ·
   intro x17 v18 s19 o20 F21 H22 d23 acc24 f25 S26 w27 w28 n29 hm30 E31 N32 hN33 hE34
   have S35 : Sx (fun a => a = p_pool_here) _ _ _ _ := Sx.refl S26.sub (fun a z => by rw [z, w27.at_]; exact (fun h => nomatch h))
   have w36 : Ow (fun a => a = p_pool_here) H22 _ _ _ _ := ⟨w27.fr, w27.at_, .inr (rfl)⟩
   unfold m_law_rule_b1 at hm30
   cases (show v18 = (V.int (x17)) from f25)
   obtain ⟨t37, e38, hm30⟩ := bd_some hm30
   refine rd_gn <| rd_wp rfl <| rd_yes <| if_tt <| rd_call <| rd_cons <| rd_v rfl <| rd_nil ?_
   refine ⟨F21, _, _, t37, rfl, S35.sub, w36.arg, e38, fun v42 F39 H40 c41 w44 f43 => ?_⟩
   have S45 := S35.call1 c41 w36
   have w46 := w36.back w44
   cases hm30
   exact hN33 _ _ _ _ rfl S45 f43 ⟨w46.fr, w46.at_, .inr rfl⟩
  intro p47 us48 F49 H50 n51 c52 w53 w54 r55
  have z56 := S9.free0 n51
  have ne57 : p_pool_here ≠ p47 := w10.ne n51
  have S58 := S9.call1 c52 w10
  have w59 : Ow (fun a => a = p_pool_here) H0 _ _ _ _ := ⟨w53.fr, w53.at_, w10.mine⟩
  have w60 : Ow (fun a => a = p_pool_here) H0 _ _ _ _ := ⟨w54.fr, w54.at_, .inl z56⟩
  obtain ⟨F61, S62, le63, f64, _, eq65⟩ := fz S58 w60 z56 r55
  have w59 := w59.fzO ne57 eq65
  obtain ⟨t66, e67, hm⟩ := bd_some hm
  refine rd_gn <| rd_seq <| rd_asg <| rd_lc ?_
  refine rd_iR1 ?_
  refine rd_cons <| rd_call <| rd_cons <| rd_v rfl <| rd_cons <| rd_c <| rd_nil ?_
  refine ⟨F61, _, _, _, t66, rfl, S62.sub, w59.arg, e67, fun v71 F68 H69 c70 w73 f72 => ?_⟩
  have S74 := S62.call1 c70 w59
  have f64 := f64.up c70
  have w75 := w59.back w73
  cases (show v71 = (V.int (t66.1)) from f72)
  obtain ⟨g76, hm⟩ := gd_some hm
  refine rd_nil ?_
  refine rd_r1 g76 ?_
  obtain ⟨g77, hm⟩ := gd_some hm
  obtain ⟨t78, e79, hm⟩ := bd_some hm
  refine rd_comp (B := τ0ₓ) feedsRg (typedR (K := K) (F := F68)) e79 g77 (Pc := (fun a => a = p_pool_here)) (fun a z => by rw [z, w75.at_]; exact (fun h => nomatch h)) S74.sub (fun (s80 : (Int × Int)) F H => Ow (fun a => a = p_pool_here) H69 F H p_pool_here (.lst [V.int s80.1, V.int s80.2])) ?_ ?_ ?_ ?_ ?_ ?_
  ·
   intro _ _ _ _ _; trivial
  ·
   exact ⟨w75.fr, w75.at_, .inr rfl⟩
  ·
   intro s F H q o w _ hq; exact w.temp hq
  ·
   intro s F H q u o w h0 hq; exact w.putO (ne_of_none w75.at_ h0)
  ·
   intro x82 v83 s84 o85 F86 H87 d88 acc89 f90 S91 w92 w93 n94 hm95 E96 N97 hN98 hE99
   have f64 := f64.up S91
   have S100 : Sx (fun a => a = p_pool_here) _ _ _ _ := Sx.refl S91.sub (fun a z => by rw [z, w92.at_]; exact (fun h => nomatch h))
   have w101 : Ow (fun a => a = p_pool_here) H87 _ _ _ _ := ⟨w92.fr, w92.at_, .inr (rfl)⟩
   unfold m_law_rule_b2 at hm95
   cases (show v83 = (V.int (x82)) from f90)
   obtain ⟨t102, e103, hm95⟩ := bd_some hm95
   refine rd_gn <| rd_wp rfl <| rd_yes <| if_tt <| rd_call <| rd_cons <| rd_v rfl <| rd_nil ?_
   refine ⟨F86, _, _, t102, rfl, S100.sub, w101.arg, e103, fun v107 F104 H105 c106 w109 f108 => ?_⟩
   have S110 := S100.call1 c106 w101
   have f64 := f64.up c106
   have w111 := w101.back w109
   cases hm95
   exact hN98 _ _ _ _ rfl S110 f108 ⟨w111.fr, w111.at_, .inr rfl⟩
  intro p112 us113 F114 H115 n116 c117 w118 w119 r120
  have z121 := S74.free0 n116
  have ne122 : p_pool_here ≠ p112 := w75.ne n116
  have S123 := S74.call1 c117 w75
  have f64 := f64.up c117
  have w124 : Ow (fun a => a = p_pool_here) H0 _ _ _ _ := ⟨w118.fr, w118.at_, w75.mine⟩
  have w125 : Ow (fun a => a = p_pool_here) H0 _ _ _ _ := ⟨w119.fr, w119.at_, .inl z121⟩
  obtain ⟨F126, S127, le128, f129, _, eq130⟩ := fz S123 w125 z121 r120
  have f64 := (qL τ0ₓ).mono le128 f64
  have w124 := w124.fzO ne122 eq130
  obtain ⟨t131, e132, hm⟩ := bd_some hm
  refine rd_gn <| rd_seq <| rd_asg <| rd_op <| rd_lst <| rd_cons <| rd_c <| rd_cons <| rd_op <| rd_c <| rd_call <| rd_cons <| rd_v rfl <| rd_cons <| rd_c <| rd_nil ?_
  refine ⟨F126, _, _, _, t131, rfl, S127.sub, w124.arg, e132, fun v136 F133 H134 c135 w138 f137 => ?_⟩
  have S139 := S127.call1 c135 w124
  obtain ⟨f64, f129⟩ := up2 f64 f129 c135
  have w140 := w124.back w138
  cases (show v136 = (V.int (t131.1)) from f137)
  obtain ⟨t141, e142, hm⟩ := bd_some hm
  refine rd_I0 <| rd_cons <| rd_op <| rd_c <| rd_call <| rd_cons <| rd_v rfl <| rd_cons <| rd_c <| rd_nil ?_
  refine ⟨F133, _, _, _, t141, rfl, S139.sub, w140.arg, e142, fun v146 F143 H144 c145 w148 f147 => ?_⟩
  have S149 := S139.call1 c145 w140
  obtain ⟨f64, f129⟩ := up2 f64 f129 c145
  have w150 := w140.back w148
  cases (show v146 = (V.int (t141.1)) from f147)
  have f151 : (qO qI).r K F143 V.non none := (show (qO qI).r K F143 V.non none from rfl)
  have f152 : (qO qI).r K F143 (V.int ((1 + t131.1))) (some (1 + t131.1)) := (show (qO qI).r K F143 (V.int ((1 + t131.1))) (some (1 + t131.1)) from rfl)
  have f153 : (qO qI).r K F143 (V.int ((1 + t141.1))) (some (1 + t141.1)) := (show (qO qI).r K F143 (V.int ((1 + t141.1))) (some (1 + t141.1)) from rfl)
  refine rd_I0 <| rd_nil <| rd_lK rfl ?_
  refine alL (K := K) (A := (qO qI)) (xs := [none, (some (1 + t131.1)), (some (1 + t141.1))]) S149 (.cons f151 (.cons f152 (.cons f153 .nil))) (fun v154 F155 H156 c157 f158 => ?_)
  have S159 := S149.call0 c157
  obtain ⟨f64, f129⟩ := up2 f64 f129 c157
  have w150 := w150.call0 c157
  obtain ⟨t160, e161, hm⟩ := bd_some hm
  refine rd_call <| rd_cons <| rd_v rfl <| rd_cons <| rd_c <| rd_nil ?_
  refine ⟨F155, _, _, _, t160, rfl, S159.sub, w150.arg, e161, fun v165 F162 H163 c164 w167 f166 => ?_⟩
  have S168 := S159.call1 c164 w150
  obtain ⟨f64, f129, f158⟩ := up3 f64 f129 f158 c164
  have w169 := w150.back w167
  cases (show v165 = (V.int (t160.1)) from f166)
  obtain ⟨t170, e171, hm⟩ := bd_some hm
  refine rd_ixL (S168.l f158).r e171 (fun u172 f173 => ?_)
  obtain ⟨t174, e175, hm⟩ := bd_some hm
  refine rd_gn <| rd_seq <| rd_asg <| rd_op <| rd_lst <| rd_cons <| rd_c <| rd_cons <| rd_call <| rd_cons <| rd_v rfl <| rd_cons <| rd_c <| rd_nil ?_
  refine ⟨F162, _, _, _, t174, rfl, S168.sub, w169.arg, e175, fun v179 F176 H177 c178 w181 f180 => ?_⟩
  have S182 := S168.call1 c178 w169
  obtain ⟨f64, f129, f173⟩ := up3 f64 f129 f173 c178
  have w183 := w169.back w181
  cases (show v179 = (V.int (t174.1)) from f180)
  obtain ⟨t184, e185, hm⟩ := bd_some hm
  refine rd_cons <| rd_call <| rd_cons <| rd_v rfl <| rd_cons <| rd_c <| rd_nil ?_
  refine ⟨F176, _, _, _, t184, rfl, S182.sub, w183.arg, e185, fun v189 F186 H187 c188 w191 f190 => ?_⟩
  have S192 := S182.call1 c188 w183
  obtain ⟨f64, f129, f173⟩ := up3 f64 f129 f173 c188
  have w193 := w183.back w191
  cases (show v189 = (V.int (t184.1)) from f190)
  have f194 : (qO qI).r K F186 V.non none := (show (qO qI).r K F186 V.non none from rfl)
  have f195 : (qO qI).r K F186 (V.int (t174.1)) (some t174.1) := (show (qO qI).r K F186 (V.int (t174.1)) (some t174.1) from rfl)
  have f196 : (qO qI).r K F186 (V.int (t184.1)) (some t184.1) := (show (qO qI).r K F186 (V.int (t184.1)) (some t184.1) from rfl)
  refine rd_nil <| rd_lK rfl ?_
  refine alL (K := K) (A := (qO qI)) (xs := [none, (some t174.1), (some t184.1)]) S192 (.cons f194 (.cons f195 (.cons f196 .nil))) (fun v197 F198 H199 c200 f201 => ?_)
  have S202 := S192.call0 c200
  obtain ⟨f64, f129, f173⟩ := up3 f64 f129 f173 c200
  have w193 := w193.call0 c200
  obtain ⟨t203, e204, hm⟩ := bd_some hm
  refine rd_call <| rd_cons <| rd_v rfl <| rd_cons <| rd_c <| rd_nil ?_
  refine ⟨F198, _, _, _, t203, rfl, S202.sub, w193.arg, e204, fun v208 F205 H206 c207 w210 f209 => ?_⟩
  have S211 := S202.call1 c207 w193
  obtain ⟨f64, f129, f173, f201⟩ := up4 f64 f129 f173 f201 c207
  have w212 := w193.back w210
  cases (show v208 = (V.int (t203.1)) from f209)
  obtain ⟨t213, e214, hm⟩ := bd_some hm
  refine rd_ixL (S211.l f201).r e214 (fun u215 f216 => ?_)
  obtain ⟨t217, e218, hm⟩ := bd_some hm
  refine rd_gn <| rd_ret <| rd_lst <| rd_cons <| rd_v rfl <| rd_cons <| rd_v rfl <| rd_cons <| rd_v rfl <| rd_cons <| rd_op <| rd_call <| rd_cons <| rd_v rfl <| rd_cons <| rd_c <| rd_nil ?_
  refine ⟨F205, _, _, _, t217, rfl, S211.sub, w212.arg, e218, fun v222 F219 H220 c221 w224 f223 => ?_⟩
  have S225 := S211.call1 c221 w212
  obtain ⟨f64, f129, f173, f216⟩ := up4 f64 f129 f173 f216 c221
  have w226 := w212.back w224
  cases (show v222 = (V.int (t217.1)) from f223)
  obtain ⟨t227, e228, hm⟩ := bd_some hm
  refine rd_c <| rd_I0 <| rd_cons <| rd_v rfl <| rd_cons <| rd_op <| rd_call <| rd_cons <| rd_v rfl <| rd_cons <| rd_c <| rd_nil ?_
  refine ⟨F219, _, _, _, t227, rfl, S225.sub, w226.arg, e228, fun v232 F229 H230 c231 w234 f233 => ?_⟩
  have S235 := S225.call1 c231 w226
  obtain ⟨f64, f129, f173, f216⟩ := up4 f64 f129 f173 f216 c231
  have w236 := w226.back w234
  cases (show v232 = (V.int (t227.1)) from f233)
  refine rd_c <| rd_I0 <| rd_nil <| rd_lK rfl ?_
  refine alLr (K := K) (B := τ2ₓ) (a := (t13.1, t78.1, t170, (decide (0 < t217.1)), t213, (decide (t227.1 = 1)))) S235 ⟨_, _, rfl, f64, _, _, rfl, f129, _, _, rfl, f173, _, _, rfl, rfl, _, _, rfl, f216, _, rfl, rfl⟩ (fun v237 F238 H239 c240 f241 => ?_)
  have S242 := S235.call0 c240
  obtain ⟨f64, f129, f173, f216⟩ := up4 f64 f129 f173 f216 c240
  have w236 := w236.call0 c240
  cases hm
  exact hQ _ _ _ S242 w236 f241
def sp_is_allowed_rules (K : PySem.W.Frag) : Sp := fun vs H Q _ => ∃ (F : Hp) (a_field : Str) (v_value : V) (a_value : Th) (r : Bool), vs = [(V.str (a_field)), v_value] ∧ Same F H ∧ qTh.r K F v_value a_value ∧ m_is_allowed_rules a_field a_value = some r ∧ ∀ v F' H', Sx P0 F H F' H' → qB.r K F' v r → Q v H'
theorem sc_is_allowed_rules : FnScope ["field", "value"] ["field", "value"] (defScope s_is_allowed_rules) := ⟨rfl, rfl, rfl, by decide +kernel, rfl, by decide +kernel, by decide +kernel⟩
theorem bn_is_allowed_rules (T : Tx P K mg) : Binds K (fdOf K ("is_allowed_rules", none)) ["field", "value"] [] := FunD.bindsN T.F_is_allowed_rules fun _ _ _ _ _ _ us hl => match us, hl with | [_, _], _ => rfl
theorem ok_is_allowed_rules (T : Tx P K mg) : FnOk P w K mg base CX0 1 (He.ga K "is_allowed_rules") (fdOf K ("is_allowed_rules", none)) ["field", "value"] (sp_is_allowed_rules K) := by
 refine FunD.ok T.F_is_allowed_rules sc_is_allowed_rules (fun vs H0 Q E h => ?_) (fun cdv A outer s H0 vs Q E hr h => ?_)
 ·
  obtain ⟨_, _, _, _, _, rfl, _⟩ := h
  rfl
 ·
  obtain ⟨F0, a_field, v_value, a_value, r, rfl, hE, f_value, hm, hQ⟩ := h
  refine ⟨_, PSs.nox ((pss_cons (ps_if (pt_cmpR (r := rIn K false) op_in_seq (pv 0) (pe_tup (pa_cons pe_str (pa_cons pe_str pa_nil))) rfl) (pss_one (ps_ret (pe_or (pe_cmpR op_isBv (pv 1) pe_bl (nomark _)) (pe_one (pe_cmpR op_isBv (pv 1) pe_bl (nomark _)))))) pss_nil) (pss_cons (ps_if (pt_cmpR op_isN' (pv 1) pe_non (nomark _)) (pss_one (ps_ret pe_bl)) pss_nil) (pss_cons (ps_if (PW.pt (pw_or (pt_not (pt_val (pe_callB (r := rIsi K) call_isi (by rfl) T.n_isinstance (by decide +kernel) (pa_cons (pv 1) (pa_cons (pe_bltn (v := V.ty "int") (by rfl) T.n_int (by decide +kernel) rfl) pa_nil))))) (pw_or1 (pt_val (pe_callB (r := rIsi K) call_isi (by rfl) T.n_isinstance (by decide +kernel) (pa_cons (pv 1) (pa_cons (pe_bltn (v := V.ty "bool") (by rfl) T.n_bool (by decide +kernel) rfl) pa_nil))))))) (pss_one (ps_ret pe_bl)) pss_nil) (pss_cons (ps_if (pt_cmpR op_eqS (pv 0) pe_str (nomark _)) (pss_one (ps_ret (pe_chain op_le op_le pe_int (pv 1) pe_int))) pss_nil) (pss_one (ps_ret (pe_chain op_le op_le pe_int (pv 1) pe_int)))))))), ?_⟩
  have S : Sx P0 F0 H0 F0 H0 := Sx.refl0 hE
  unfold m_is_allowed_rules at hm
  refine rd_seq <| rd_ifS <| rd_test <| rd_op <| rd_v rfl <| rd_tup <| rd_cons <| rd_c <| rd_cons <| rd_c <| rd_nil <| rd_uK rfl ?_
  refine alT (K := K) (A := qS) (xs := [("alone" : Str), ("quiet" : Str)]) S (.cons rfl (.cons rfl .nil)) (fun v1 F2 H3 c4 f5 => ?_)
  have S6 := S.call0 c4
  have f_value := f_value.up c4
  refine rd_inS (S6.t f5).q ?_
  refine rd_b ?_
  refine if_b hm (fun b7 hm => ?_) (fun b7 hm => ?_)
  ·
   cases hm
   refine rd_ret <| rd_orV <| rd_op <| rd_v rfl <| rd_c ?_
   refine rd_isBTh f_value ?_
   refine rd_b ?_
   refine orV_p (by intro _ Q' q; refine rd_op ?_; refine rd_v rfl ?_; refine rd_c ?_; refine rd_isBTh f_value ?_; exact q) ?_
   exact hQ _ _ _ S6 rfl
  ·
   refine rd_next <| rd_seq <| rd_ifS <| rd_test <| rd_op <| rd_v rfl <| rd_c ?_
   refine rd_isNTh f_value ?_
   refine rd_b ?_
   refine if_b hm (fun b8 hm => ?_) (fun b8 hm => ?_)
   ·
    cases hm
    refine rd_ret <| rd_c ?_
    exact hQ _ _ _ S6 rfl
   ·
    refine rd_next <| rd_seq <| rd_ifS <| rd_or <| rd_not <| rd_tB <| rd_cb <| rd_cons <| rd_v rfl <| rd_cons <| rd_c <| rd_nil ?_
    refine rd_isiTh (n := "int") (tx_th S6 f_value) (by decide +kernel) ?_
    refine rd_b ?_
    refine or_p (by intro _ Q' q; refine rd_tB ?_; refine rd_cb ?_; refine rd_cons ?_; refine rd_v rfl ?_; refine rd_cons ?_; refine rd_c ?_; refine rd_nil ?_; refine rd_isiTh (n := "bool") (tx_th S6 f_value) (by decide +kernel) ?_; refine rd_b ?_; exact q) ?_
    refine if_b hm (fun b9 hm => ?_) (fun b9 hm => ?_)
    ·
     cases hm
     refine rd_ret <| rd_c ?_
     exact hQ _ _ _ S6 rfl
    ·
     refine rd_next <| rd_seq <| rd_ifS <| rd_test <| rd_op <| rd_v rfl <| rd_c <| rd_S0 <| rd_b ?_
     refine if_b hm (fun b10 hm => ?_) (fun b10 hm => ?_)
     ·
      obtain ⟨t11, e12, hm⟩ := bd_some hm
      have e13 := thI_fact f_value e12
      cases e13
      cases hm
      refine rd_ret ?_
      refine rd_chain ?_
      refine rd_c <| rd_v rfl <| rd_I0 ?_
      refine ch_at (c := decide (t11 ≤ 20)) (by intro Q9 k9; refine rd_c ?_; exact k9) (fun _ k9 => rd_I0 k9) ?_
      exact hQ _ _ _ S6 rfl
     ·
      obtain ⟨t14, e15, hm⟩ := bd_some hm
      have e16 := thI_fact f_value e15
      cases e16
      cases hm
      refine rd_next <| rd_ret ?_
      refine rd_chain ?_
      refine rd_c <| rd_v rfl <| rd_I0 ?_
      refine ch_at (c := decide (t14 ≤ 9)) (by intro Q9 k9; refine rd_c ?_; exact k9) (fun _ k9 => rd_I0 k9) ?_
      exact hQ _ _ _ S6 rfl
def sp_check_settings (K : PySem.W.Frag) : Sp := fun vs H Q _ => ∃ (F : Hp) (v_settings : V) (a_settings : (List (Str × Th))) (r : Unit), vs = [v_settings] ∧ Same F H ∧ qSd.r K F v_settings a_settings ∧ m_check_settings a_settings = some r ∧ ∀ v F' H', Sx P0 F H F' H' → qN.r K F' v r → Q v H'
theorem sc_check_settings : FnScope ["settings", "field"] ["settings"] (defScope s_check_settings) := ⟨rfl, rfl, rfl, by decide +kernel, rfl, by decide +kernel, by decide +kernel⟩
theorem bn_check_settings (T : Tx P K mg) : Binds K (fdOf K ("check_settings", none)) ["settings"] [] := FunD.bindsN T.F_check_settings fun _ _ _ _ _ _ us hl => match us, hl with | [_], _ => rfl
theorem ok_check_settings (T : Tx P K mg) : FnOk P w K mg base CX0 2 (He.ga K "check_settings") (fdOf K ("check_settings", none)) ["settings"] (sp_check_settings K) := by
 refine FunD.ok T.F_check_settings sc_check_settings (fun vs H0 Q E h => ?_) (fun cdv A outer s H0 vs Q E hr h => ?_)
 ·
  obtain ⟨_, _, _, _, rfl, _⟩ := h
  rfl
 ·
  obtain ⟨F0, v_settings, a_settings, r, rfl, hE, f_settings, hm, hQ⟩ := h
  refine ⟨_, PSs.nox ((pss_one (ps_for PassesOwn.never rfl (pi_tupK (pe_glob (v := V.ref (He.ga K "FIELDS")) (by rfl) T.g_FIELDS rfl)) (pg_name (i := 1) sc_check_settings.nd rfl (dk rfl)) (pss_one (ps_if (PW.pt (pw_and (pt_cmpR (op_dIn hr.units) (pv 1) (pv 0) rfl) (pw_and1 (pt_not (pt_val (pe_call (ok_is_allowed_rules T) (hr.mono (by decide)) (by rfl) T.g_is_allowed_rules T.F_is_allowed_rules.kp (bn_is_allowed_rules T) .nil pass0 (pa_cons (pv 1) (pa_cons (pe_dgetO hr.units (pv 0) (pv 1) (fun _ _ => rfl)) pa_nil)))))))) (pss_one ps_dead) pss_nil))))), ?_⟩
  have S : Sx P0 F0 H0 F0 H0 := Sx.refl0 hE
  unfold m_check_settings at hm
  have f1 : (qT qS).r K F0 (.ref (He.ga K "FIELDS")) (["most", "alone", "tags", "quiet"] : List Str) := T.q_FIELDS _
  refine rd_for ?_
  refine rd_iT ?_
  refine rd_c ?_
  refine rd_wTF S f1 (fun p2 vs3 hq4 row5 => ?_)
  obtain ⟨t6, e7, hm⟩ := bd_some hm
  refine rd_forS feedsT (typedRow row5) e7 (fun (s8 : Unit) σ H => ∃ (F : Hp) (o1 : Option V), σ = [some v_settings, o1] ∧ Sx P0 F0 H0 F H) ?_ ?_ ?_ ?_
  ·
   rintro _ _ _ ⟨_, _, _, S9⟩
   exact (same_t S9.sub (same_t S9.le hq4))
  ·
   have S10 := Sx.refl0 S.sub
   exact ⟨F0, _, rfl, S10⟩
  ·
   rintro x11 v12 s13 c17 σ14 H15 f16 ⟨F18, o20, rfl, S19⟩ hm23
   have f_settings := f_settings.up S19
   unfold m_check_settings_b1 at hm23
   cases (show v12 = (V.str (x11)) from f16)
   obtain ⟨t36, e37, hm23⟩ := bd_some hm23
   refine rd_gn <| rd_ifS <| rd_and <| rd_test <| rd_op <| rd_v rfl <| rd_v rfl ?_
   refine rd_dInSd S19 f_settings ?_
   refine rd_b ?_
   refine and_j (fun c H' => c = t36 ∧ ∃ F', Sx P0 F18 H15 F' H') ?_ ?_ ?_
   ·
    intro b38 Q39 q40
    have e37 := if_t e37 b38
    have S41 := Sx.refl0 S19.sub
    obtain ⟨t42, e43, e37⟩ := bd_some e37
    refine rd_not <| rd_tB <| rd_call <| rd_cons <| rd_v rfl <| rd_cons <| rd_op <| rd_v rfl <| rd_v rfl ?_
    refine rd_dgSd S41 f_settings e43 (fun u44 f45 => ?_)
    obtain ⟨t46, e47, e37⟩ := bd_some e37
    refine rd_nil ?_
    refine ⟨F18, _, _, _, t46, rfl, S41.sub, f45, e47, fun v51 F48 H49 c50 f52 => ?_⟩
    have S53 := S41.call0 c50
    have f_settings := f_settings.up c50
    cases (show v51 = (V.bl (t46)) from f52)
    cases e37
    refine rd_b ?_
    exact q40 _ _ ⟨rfl, F48, S53⟩
   ·
    intro b38
    have e37 := if_f e37 b38
    cases e37
    have S54 := Sx.refl0 S19.sub
    exact ⟨rfl, F18, S54⟩
   rintro b58 H56 ⟨rfl, F55, c57⟩
   have S59 := S19.call0 c57
   have f_settings := f_settings.up c57
   refine if_b hm23 (fun b60 hm23 => ?_) (fun b60 hm23 => ?_)
   ·
    cases hm23
   ·
    cases hm23
    refine rd_next ?_
    exact ⟨F55, _, rfl, S59⟩
  ·
   rintro σ61 H62 ⟨F63, o65, rfl, S64⟩
   have S66 := S.call0 S64
   have f_settings := f_settings.up S64
   cases hm
   exact hQ _ _ _ S66 rfl
def sp_Rule___init__ (K : PySem.W.Frag) : Sp := fun vs H Q _ => ∃ (F : Hp) (p_self : Addr) (dx : Addr) (v_begins : V) (a_begins : (List Pat)) (v_ends : V) (a_ends : (List Pat)) (v_most : V) (a_most : Th) (v_alone : V) (a_alone : Th) (v_tags : V) (a_tags : Th) (v_quiet : V) (a_quiet : Th) (r : τ5ₓ), vs = [.ref p_self, v_begins, v_ends, v_most, v_alone, v_tags, v_quiet] ∧ Same F H ∧ Ow (fun a => a = p_self) H F H p_self (.ins (He.ga K "Rule") dx []) ∧ (qL qPat).r K F v_begins a_begins ∧ (qL qPat).r K F v_ends a_ends ∧ qTh.r K F v_most a_most ∧ qTh.r K F v_alone a_alone ∧ qTh.r K F v_tags a_tags ∧ qTh.r K F v_quiet a_quiet ∧ m_Rule___init__ a_begins a_ends a_most a_alone a_tags a_quiet = some r ∧ ∀ (F' H' : Hp) (u0 u1 u2 : V), Sx (fun a => a = p_self) F H F' H' → Ow (fun a => a = p_self) H F' H' p_self (.ins (He.ga K "Rule") dx [("openers", u0), ("closers", u1), ("settings", u2)]) → (qL qPat).r K F' u0 r.1 → (qL qPat).r K F' u1 r.2.1 → qSd.r K F' u2 r.2.2 → Q .non H'
theorem sc_Rule___init__ : FnScope ["self", "begins", "ends", "most", "alone", "tags", "quiet", "settings"] ["self", "begins", "ends", "most", "alone", "tags", "quiet"] (defScope s_Rule___init__) := ⟨rfl, rfl, rfl, by decide +kernel, rfl, by decide +kernel, by decide +kernel⟩
theorem kb_Rule___init___0 (T : Tx P K mg) : ∃ mv : List Value, KBn K (fdOf K ("Rule", some "__init__")) ["self", "begins", "ends", "most", "alone", "tags", "quiet"] 3 ["most", "alone", "tags", "quiet"] (fun us ws => us ++ (((ws.drop 0).take 1) ++ (((ws.drop 1).take 1) ++ (((ws.drop 2).take 1) ++ (((ws.drop 3).take 1)))))) (fun vs zs => vs ++ (((zs.drop 0).take 1) ++ (((zs.drop 1).take 1) ++ (((zs.drop 2).take 1) ++ (((zs.drop 3).take 1)))))) :=
 FunD.kbinds0 T.F_Rule___init__ 3 ["most", "alone", "tags", "quiet"] [] (fun us mv ws => us ++ (((ws.drop 0).take 1) ++ (((ws.drop 1).take 1) ++ (((ws.drop 2).take 1) ++ (((ws.drop 3).take 1)))))) (by decide) (fun q hq => by cases hq) (fun r1 r2 r3 => pApp r1 (pApp (pTake 1 (pDrop 0 r3)) (pApp (pTake 1 (pDrop 1 r3)) (pApp (pTake 1 (pDrop 2 r3)) (pTake 1 (pDrop 3 r3)))))) fun D doc pm an cdv ct us mv ws l1 l2 l3 => match us, l1, mv, l2, ws, l3 with | [_, _, _], _, [], _, [_, _, _, _], _ => rfl
theorem kb_Rule___init___1 (T : Tx P K mg) : ∃ mv : List Value, KBn K (fdOf K ("Rule", some "__init__")) ["self", "begins", "ends", "most", "alone", "tags", "quiet"] 3 [] (fun us ws => us ++ (((mv.drop 0).take 1) ++ (((mv.drop 1).take 1) ++ (((mv.drop 2).take 1) ++ (((mv.drop 3).take 1)))))) (fun vs zs => vs ++ ((((([("most", V.non), ("alone", V.bl true), ("tags", V.non), ("quiet", V.bl false)] : List (Str × V)).map (·.2)).drop 0).take 1) ++ ((((([("most", V.non), ("alone", V.bl true), ("tags", V.non), ("quiet", V.bl false)] : List (Str × V)).map (·.2)).drop 1).take 1) ++ ((((([("most", V.non), ("alone", V.bl true), ("tags", V.non), ("quiet", V.bl false)] : List (Str × V)).map (·.2)).drop 2).take 1) ++ ((((([("most", V.non), ("alone", V.bl true), ("tags", V.non), ("quiet", V.bl false)] : List (Str × V)).map (·.2)).drop 3).take 1)))))) :=
 FunD.kbinds0 T.F_Rule___init__ 3 [] [("most", V.non), ("alone", V.bl true), ("tags", V.non), ("quiet", V.bl false)] (fun us mv ws => us ++ (((mv.drop 0).take 1) ++ (((mv.drop 1).take 1) ++ (((mv.drop 2).take 1) ++ (((mv.drop 3).take 1)))))) (by decide) (fun q hq => by simp only [List.mem_cons, List.not_mem_nil, or_false] at hq; rcases hq with rfl | rfl | rfl | rfl <;> simp) (fun r1 r2 r3 => pApp r1 (pApp (pTake 1 (pDrop 0 r2)) (pApp (pTake 1 (pDrop 1 r2)) (pApp (pTake 1 (pDrop 2 r2)) (pTake 1 (pDrop 3 r2)))))) fun D doc pm an cdv ct us mv ws l1 l2 l3 => match us, l1, mv, l2, ws, l3 with | [_, _, _], _, [_, _, _, _], _, [], _ => ⟨_, _, _, _, _, _, rfl, rfl, ⟨_, _, _, _, _, _, rfl, rfl, ⟨_, _, _, _, _, _, rfl, rfl, ⟨_, _, _, _, _, _, rfl, rfl, rfl⟩⟩⟩⟩
theorem kd_Rule___init__ (T : Tx P K mg) : ∃ ds, Vals (([("most", V.non), ("alone", V.bl true), ("tags", V.non), ("quiet", V.bl false)] : List (Str × V)).map (·.2)) ds ∧ Binds K (fdOf K ("Rule", some "__init__")) ["self", "begins", "ends", "most", "alone", "tags", "quiet"] ds :=
 FunD.binds0 T.F_Rule___init__ 3 (by decide) rfl fun D doc pm an cdv ct us ks l1 l2 => match us, l1, ks, l2 with | [_, _, _], _, [_, _, _, _], _ => ⟨_, _, _, _, _, _, rfl, rfl, ⟨_, _, _, _, _, _, rfl, rfl, ⟨_, _, _, _, _, _, rfl, rfl, ⟨_, _, _, _, _, _, rfl, rfl, rfl⟩⟩⟩⟩
theorem ok_Rule___init__ (T : Tx P K mg) : FnOk P w K mg base CX0 3 (He.fAd K ("Rule", some "__init__")) (fdOf K ("Rule", some "__init__")) ["self", "begins", "ends", "most", "alone", "tags", "quiet"] (sp_Rule___init__ K) := by
 refine FunD.ok T.F_Rule___init__ sc_Rule___init__ (fun vs H0 Q E h => ?_) (fun cdv A outer s H0 vs Q E hr h => ?_)
 ·
  obtain ⟨_, _, _, _, _, _, _, _, _, _, _, _, _, _, _, _, rfl, _⟩ := h
  rfl
 ·
  obtain ⟨F0, p_self, dx, v_begins, a_begins, v_ends, a_ends, v_most, a_most, v_alone, a_alone, v_tags, a_tags, v_quiet, a_quiet, r, rfl, hE, w_self, f_begins, f_ends, f_most, f_alone, f_tags, f_quiet, hm, hQ⟩ := h
  refine ⟨_, PSs.nox ((pss_cons (ps_if (pt_cmpR op_gt (pe_op op_add (pe_callB (r := rLenQ K) cr_lenQ (by rfl) T.n_len (by decide +kernel) (pa_cons (pv 1) pa_nil)) (pe_callB (r := rLenQ K) cr_lenQ (by rfl) T.n_len (by decide +kernel) (pa_cons (pv 2) pa_nil))) pe_int (nomark _)) (pss_one ps_dead) pss_nil) (pss_cons (ps_set (i := 7) sc_Rule___init__.nd rfl (dk rfl) (pe_disp (pps_cons pe_str (pv 3) (pps_cons pe_str (pv 4) (pps_cons pe_str (pv 5) (pps_cons pe_str (pv 6) pps_nil)))) rfl rfl (by decide) (by decide))) (pss_cons (ps_expr (pe_call (ok_check_settings T) (hr.mono (by decide)) (by rfl) T.g_check_settings T.F_check_settings.kp (bn_check_settings T) .nil pass0 (pa_cons (pv 7) pa_nil))) (pss_cons (ps_fld (pv 0) (pe_callTy (r := rListQ K) cr_listQ (by rfl) T.n_list (by decide +kernel) (pa_cons (pv 1) pa_nil)) rfl) (pss_cons (ps_fld (pv 0) (pe_callTy (r := rListQ K) cr_listQ (by rfl) T.n_list (by decide +kernel) (pa_cons (pv 2) pa_nil)) rfl) (pss_one (ps_fld (pv 0) (pv 7) rfl)))))))), ?_⟩
  have S : Sx (fun a => a = p_self) F0 H0 F0 H0 := Sx.refl hE (live1 w_self)
  unfold m_Rule___init__ at hm
  refine rd_seq <| rd_ifS <| rd_test <| rd_op <| rd_op <| rd_cb <| rd_cons <| rd_v rfl <| rd_nil ?_
  refine rd_lenQ (S.l f_begins).r.q ?_
  refine rd_cb <| rd_cons <| rd_v rfl <| rd_nil ?_
  refine rd_lenQ (S.l f_ends).r.q ?_
  refine rd_I0 <| rd_c <| rd_I0 <| rd_b ?_
  refine if_b hm (fun b1 hm => ?_) (fun b1 hm => ?_)
  ·
   cases hm
  ·
   refine rd_next <| rd_seq <| rd_asg ?_
   refine rd_disp S (fun p2 H3 np4 c5 w6 => ?_)
   have ne7 : p_self ≠ p2 := w_self.ne np4
   have z8 := S.free0 np4
   have S9 := S.call0 c5
   obtain ⟨f_begins, f_ends, f_most, f_alone, f_tags, f_quiet⟩ := up6 f_begins f_ends f_most f_alone f_tags f_quiet c5
   have w_self := w_self.call0 c5
   have r10 : SdRow K F0 ([(.inr "most", v_most), (.inr "alone", v_alone), (.inr "tags", v_tags), (.inr "quiet", v_quiet)] : List (Key × V)) [(("most" : Str), a_most), (("alone" : Str), a_alone), (("tags" : Str), a_tags), (("quiet" : Str), a_quiet)] := (.cons ⟨rfl, f_most⟩ (.cons ⟨rfl, f_alone⟩ (.cons ⟨rfl, f_tags⟩ (.cons ⟨rfl, f_quiet⟩ .nil))))
   refine rd_pp ?_
   refine rd_c <| rd_v rfl ?_
   refine rd_pp ?_
   refine rd_c <| rd_v rfl ?_
   refine rd_pp ?_
   refine rd_c <| rd_v rfl ?_
   refine rd_pp ?_
   refine rd_c <| rd_v rfl ?_
   refine rd_p0 ?_
   refine rd_dispE (ks := [.inr "most", .inr "alone", .inr "tags", .inr "quiet"]) S9 w6 r10 rfl rfl rfl (by decide +kernel) (fun H11 c12 w13 => ?_)
   have S14 := S9.call1 c12 w6
   obtain ⟨f_begins, f_ends, f_most, f_alone, f_tags, f_quiet⟩ := up6 f_begins f_ends f_most f_alone f_tags f_quiet c12
   have w_self := w_self.call c12 (by intro z; exact ne7 z)
   have r10 := SdRow.mono c12.le r10
   obtain ⟨F15, S16, le17, f18, eq19⟩ := fzSd S14 w13 z8 r10
   have f_begins := (qL qPat).mono le17 f_begins
   have f_ends := (qL qPat).mono le17 f_ends
   have f_most := qTh.mono le17 f_most
   have f_alone := qTh.mono le17 f_alone
   have f_tags := qTh.mono le17 f_tags
   have f_quiet := qTh.mono le17 f_quiet
   have w_self := w_self.fzO ne7 eq19
   obtain ⟨t20, e21, hm⟩ := bd_some hm
   refine rd_gn <| rd_seq <| rd_drop <| rd_call <| rd_cons <| rd_v rfl <| rd_nil ?_
   refine ⟨F15, _, _, t20, rfl, S16.sub, f18, e21, fun v25 F22 H23 c24 f26 => ?_⟩
   have S27 := S16.call0 c24
   obtain ⟨f_begins, f_ends, f_most, f_alone, f_tags, f_quiet⟩ := up6 f_begins f_ends f_most f_alone f_tags f_quiet c24
   have f18 := f18.up c24
   have w_self := w_self.call0 c24
   cases (show v25 = V.non from f26)
   refine rd_seq ?_
   refine rd_sfld ?_
   refine rd_cb <| rd_cons <| rd_v rfl <| rd_nil ?_
   refine rd_listQ (S27.l f_begins).r.q ?_
   refine alL' S27 (fun v28 F29 H30 c31 f32 => ?_)
   have S33 := S27.call0 c31
   obtain ⟨f_begins, f_ends, f_most, f_alone, f_tags, f_quiet⟩ := up6 f_begins f_ends f_most f_alone f_tags f_quiet c31
   have f18 := f18.up c31
   have w_self := w_self.call0 c31
   refine rd_v rfl ?_
   refine fset (fs' := [("openers", v28)]) S33 w_self T.c_Rule T.na_Rule_openers (by rfl) (by rfl) (fun H34 c35 w36 => ?_)
   have f37 : (qL qPat).r K F29 v28 a_begins := f32
   have S38 := S33.call1 c35 w_self
   obtain ⟨f_begins, f_ends, f_most, f_alone, f_tags, f_quiet⟩ := up6 f_begins f_ends f_most f_alone f_tags f_quiet c35
   obtain ⟨f18, f37⟩ := up2 f18 f37 c35
   refine rd_seq ?_
   refine rd_sfld ?_
   refine rd_cb <| rd_cons <| rd_v rfl <| rd_nil ?_
   refine rd_listQ (S38.l f_ends).r.q ?_
   refine alL' S38 (fun v39 F40 H41 c42 f43 => ?_)
   have S44 := S38.call0 c42
   obtain ⟨f_begins, f_ends, f_most, f_alone, f_tags, f_quiet⟩ := up6 f_begins f_ends f_most f_alone f_tags f_quiet c42
   obtain ⟨f18, f37⟩ := up2 f18 f37 c42
   have w36 := w36.call0 c42
   refine rd_v rfl ?_
   refine fset (fs' := [("openers", v28), ("closers", v39)]) S44 w36 T.c_Rule T.na_Rule_closers (by rfl) (by rfl) (fun H45 c46 w47 => ?_)
   have f48 : (qL qPat).r K F40 v39 a_ends := f43
   have S49 := S44.call1 c46 w36
   obtain ⟨f_begins, f_ends, f_most, f_alone, f_tags, f_quiet⟩ := up6 f_begins f_ends f_most f_alone f_tags f_quiet c46
   obtain ⟨f18, f37, f48⟩ := up3 f18 f37 f48 c46
   refine rd_sfld ?_
   refine rd_v rfl <| rd_v rfl ?_
   refine fset (fs' := [("openers", v28), ("closers", v39), ("settings", (V.ref p2))]) S49 w47 T.c_Rule T.na_Rule_settings (by rfl) (by rfl) (fun H50 c51 w52 => ?_)
   have f53 : qSd.r K F40 (V.ref p2) [(("most" : Str), a_most), (("alone" : Str), a_alone), (("tags" : Str), a_tags), (("quiet" : Str), a_quiet)] := f18
   have S54 := S49.call1 c51 w47
   obtain ⟨f_begins, f_ends, f_most, f_alone, f_tags, f_quiet⟩ := up6 f_begins f_ends f_most f_alone f_tags f_quiet c51
   obtain ⟨f18, f37, f48, f53⟩ := up4 f18 f37 f48 f53 c51
   cases hm
   exact hQ _ _ v28 v39 (V.ref p2) S54 w52 f37 f48 f53
theorem new_Rule {P0' : Addr → Prop} {F0 H0 F H : Hp} {Q : VK} {E : XK} {b0 : (List Pat)} {v0 : V} {b1 : (List Pat)} {v1 : V} {b2 : Th} {v2 : V} {b3 : Th} {v3 : V} {b4 : Th} {v4 : V} {b5 : Th} {v5 : V} {r : τ5ₓ} (S : Sx P0' F0 H0 F H) (f0 : (qL qPat).r K F v0 b0) (f1 : (qL qPat).r K F v1 b1) (f2 : qTh.r K F v2 b2) (f3 : qTh.r K F v3 b3) (f4 : qTh.r K F v4 b4) (f5 : qTh.r K F v5 b5) (hm : m_Rule___init__ b0 b1 b2 b3 b4 b5 = some r) (k : ∀ v F' H', Sx P0 F H F' H' → qRule.r K F' v r → Q v H') : mkK (He.ga K "Rule") (sp_Rule___init__ K) E Q [v0, v1, v2, v3, v4, v5] H := by
 refine mk_plain S fun x dx H1 hx c1 w => ?_
 refine ⟨F, x, dx, v0, b0, v1, b1, v2, b2, v3, b3, v4, b4, v5, b5, r, rfl, c1.sub, w, f0, f1, f2, f3, f4, f5, hm, fun F' H' u0 u1 u2 c w' k0 k1 k2 => ⟨rfl, ?_⟩⟩
 obtain ⟨F2, S2, le, h3⟩ := fzI c1 hx c w'
 exact k _ F2 H' S2 ⟨x, dx, u0, u1, u2, rfl, h3, (qL qPat).mono le k0, (qL qPat).mono le k1, qSd.mono le k2⟩
def sp_Rule___init___vx (K : PySem.W.Frag) : Sp := fun vs H Q E => ∃ (F : Hp) (p_self : Addr) (dx : Addr) (v_begins : V) (a_begins : (List Pat)) (v_ends : V) (a_ends : (List Pat)) (v_most : V) (a_most : Th) (v_alone : V) (a_alone : Th) (v_tags : V) (a_tags : Th) (v_quiet : V) (a_quiet : Th) (rr : (Except Str τ5ₓ)), vs = [.ref p_self, v_begins, v_ends, v_most, v_alone, v_tags, v_quiet] ∧ Same F H ∧ Ow (fun a => a = p_self) H F H p_self (.ins (He.ga K "Rule") dx []) ∧ (qL qPat).r K F v_begins a_begins ∧ (qL qPat).r K F v_ends a_ends ∧ qTh.r K F v_most a_most ∧ qTh.r K F v_alone a_alone ∧ qTh.r K F v_tags a_tags ∧ qTh.r K F v_quiet a_quiet ∧ m_Rule___init___vx a_begins a_ends a_most a_alone a_tags a_quiet = some rr ∧ (∀ r, rr = .ok r → ∀ (F' H' : Hp) (u0 u1 u2 : V), Sx (fun a => a = p_self) F H F' H' → Ow (fun a => a = p_self) H F' H' p_self (.ins (He.ga K "Rule") dx [("openers", u0), ("closers", u1), ("settings", u2)]) → (qL qPat).r K F' u0 r.1 → (qL qPat).r K F' u1 r.2.1 → qSd.r K F' u2 r.2.2 → Q .non H') ∧ (∀ e cls d F' H', rr = .error e → Sx (fun a => a = p_self) F H F' H' → ErrAt K H' "NoRule" ["field"] [.str e] cls d → E cls d H')
theorem sc_Rule___init___vx : FnScope ["self", "begins", "ends", "most", "alone", "tags", "quiet", "settings"] ["self", "begins", "ends", "most", "alone", "tags", "quiet"] (defScope s_Rule___init__) := ⟨rfl, rfl, rfl, by decide +kernel, rfl, by decide +kernel, by decide +kernel⟩
theorem kb_Rule___init___vx_0 (T : Tx P K mg) : ∃ mv : List Value, KBn K (fdOf K ("Rule", some "__init__")) ["self", "begins", "ends", "most", "alone", "tags", "quiet"] 3 [] (fun us ws => us ++ (((mv.drop 0).take 1) ++ (((mv.drop 1).take 1) ++ (((mv.drop 2).take 1) ++ (((mv.drop 3).take 1)))))) (fun vs zs => vs ++ ((((([("most", V.non), ("alone", V.bl true), ("tags", V.non), ("quiet", V.bl false)] : List (Str × V)).map (·.2)).drop 0).take 1) ++ ((((([("most", V.non), ("alone", V.bl true), ("tags", V.non), ("quiet", V.bl false)] : List (Str × V)).map (·.2)).drop 1).take 1) ++ ((((([("most", V.non), ("alone", V.bl true), ("tags", V.non), ("quiet", V.bl false)] : List (Str × V)).map (·.2)).drop 2).take 1) ++ ((((([("most", V.non), ("alone", V.bl true), ("tags", V.non), ("quiet", V.bl false)] : List (Str × V)).map (·.2)).drop 3).take 1)))))) :=
 FunD.kbinds0 T.F_Rule___init__ 3 [] [("most", V.non), ("alone", V.bl true), ("tags", V.non), ("quiet", V.bl false)] (fun us mv ws => us ++ (((mv.drop 0).take 1) ++ (((mv.drop 1).take 1) ++ (((mv.drop 2).take 1) ++ (((mv.drop 3).take 1)))))) (by decide) (fun q hq => by simp only [List.mem_cons, List.not_mem_nil, or_false] at hq; rcases hq with rfl | rfl | rfl | rfl <;> simp) (fun r1 r2 r3 => pApp r1 (pApp (pTake 1 (pDrop 0 r2)) (pApp (pTake 1 (pDrop 1 r2)) (pApp (pTake 1 (pDrop 2 r2)) (pTake 1 (pDrop 3 r2)))))) fun D doc pm an cdv ct us mv ws l1 l2 l3 => match us, l1, mv, l2, ws, l3 with | [_, _, _], _, [_, _, _, _], _, [], _ => ⟨_, _, _, _, _, _, rfl, rfl, ⟨_, _, _, _, _, _, rfl, rfl, ⟨_, _, _, _, _, _, rfl, rfl, ⟨_, _, _, _, _, _, rfl, rfl, rfl⟩⟩⟩⟩
theorem kd_Rule___init___vx (T : Tx P K mg) : ∃ ds, Vals (([("most", V.non), ("alone", V.bl true), ("tags", V.non), ("quiet", V.bl false)] : List (Str × V)).map (·.2)) ds ∧ Binds K (fdOf K ("Rule", some "__init__")) ["self", "begins", "ends", "most", "alone", "tags", "quiet"] ds :=
 FunD.binds0 T.F_Rule___init__ 3 (by decide) rfl fun D doc pm an cdv ct us ks l1 l2 => match us, l1, ks, l2 with | [_, _, _], _, [_, _, _, _], _ => ⟨_, _, _, _, _, _, rfl, rfl, ⟨_, _, _, _, _, _, rfl, rfl, ⟨_, _, _, _, _, _, rfl, rfl, ⟨_, _, _, _, _, _, rfl, rfl, rfl⟩⟩⟩⟩
theorem ok_Rule___init___vx (T : Tx P K mg) : FnOk P w K mg base (L2.CX P w) 3 (He.fAd K ("Rule", some "__init__")) (fdOf K ("Rule", some "__init__")) ["self", "begins", "ends", "most", "alone", "tags", "quiet"] (sp_Rule___init___vx K) := by
 refine FunD.ok T.F_Rule___init__ sc_Rule___init___vx (fun vs H0 Q E h => ?_) (fun cdv A outer s H0 vs Q E hr h => ?_)
 ·
  obtain ⟨_, _, _, _, _, _, _, _, _, _, _, _, _, _, _, _, rfl, _⟩ := h
  rfl
 ·
  obtain ⟨F0, p_self, dx, v_begins, a_begins, v_ends, a_ends, v_most, a_most, v_alone, a_alone, v_tags, a_tags, v_quiet, a_quiet, rr, rfl, hE, w_self, f_begins, f_ends, f_most, f_alone, f_tags, f_quiet, hm, hQ, hX⟩ := h
  refine ⟨_, (pss_cons (ps_if (pt_cmpR op_gt (pe_op op_add (pe_callB (r := rLenQ K) cr_lenQ (by rfl) T.n_len (by decide +kernel) (pa_cons (pv 1) pa_nil)) (pe_callB (r := rLenQ K) cr_lenQ (by rfl) T.n_len (by decide +kernel) (pa_cons (pv 2) pa_nil))) pe_int (nomark _)) (pss_one (ps_rz (pmk_err (k := 0) T.er_NoRule.c is_NoRule T.er_NoRule.no T.er_NoRule.g T.er_NoRule.k (hr.mono (by decide)) (by rfl) (pa_cons pe_str pa_nil)))) pss_nil) (pss_cons (ps_set (i := 7) sc_Rule___init___vx.nd rfl (dk rfl) (pe_disp (pps_cons pe_str (pv 3) (pps_cons pe_str (pv 4) (pps_cons pe_str (pv 5) (pps_cons pe_str (pv 6) pps_nil)))) rfl rfl (by decide) (by decide))) (pss_cons (ps_expr (pe_call (ok_check_settings T) (hr.mono (by decide)) (by rfl) T.g_check_settings T.F_check_settings.kp (bn_check_settings T) .nil pass0 (pa_cons (pv 7) pa_nil))) (pss_cons (ps_fld (pv 0) (pe_callTy (r := rListQ K) cr_listQ (by rfl) T.n_list (by decide +kernel) (pa_cons (pv 1) pa_nil)) rfl) (pss_cons (ps_fld (pv 0) (pe_callTy (r := rListQ K) cr_listQ (by rfl) T.n_list (by decide +kernel) (pa_cons (pv 2) pa_nil)) rfl) (pss_one (ps_fld (pv 0) (pv 7) rfl))))))), ?_⟩
  have S : Sx (fun a => a = p_self) F0 H0 F0 H0 := Sx.refl hE (live1 w_self)
  unfold m_Rule___init___vx at hm
  refine rd_seq <| rd_ifS <| rd_test <| rd_op <| rd_op <| rd_cb <| rd_cons <| rd_v rfl <| rd_nil ?_
  refine rd_lenQ (S.l f_begins).r.q ?_
  refine rd_cb <| rd_cons <| rd_v rfl <| rd_nil ?_
  refine rd_lenQ (S.l f_ends).r.q ?_
  refine rd_I0 <| rd_c <| rd_I0 <| rd_b ?_
  refine if_b hm (fun b1 hm => ?_) (fun b1 hm => ?_)
  ·
   cases hm
   refine rd_rz ?_
   refine rd_cons <| rd_c <| rd_nil ?_
   exact rd_eK (xs := [.str ((("marks" : Str)) : Str)]) S rfl rfl fun cls d H1 c er => hX _ _ _ _ _ rfl c er
  ·
   refine rd_next <| rd_seq <| rd_asg ?_
   refine rd_disp S (fun p2 H3 np4 c5 w6 => ?_)
   have ne7 : p_self ≠ p2 := w_self.ne np4
   have z8 := S.free0 np4
   have S9 := S.call0 c5
   obtain ⟨f_begins, f_ends, f_most, f_alone, f_tags, f_quiet⟩ := up6 f_begins f_ends f_most f_alone f_tags f_quiet c5
   have w_self := w_self.call0 c5
   have r10 : SdRow K F0 ([(.inr "most", v_most), (.inr "alone", v_alone), (.inr "tags", v_tags), (.inr "quiet", v_quiet)] : List (Key × V)) [(("most" : Str), a_most), (("alone" : Str), a_alone), (("tags" : Str), a_tags), (("quiet" : Str), a_quiet)] := (.cons ⟨rfl, f_most⟩ (.cons ⟨rfl, f_alone⟩ (.cons ⟨rfl, f_tags⟩ (.cons ⟨rfl, f_quiet⟩ .nil))))
   refine rd_pp ?_
   refine rd_c <| rd_v rfl ?_
   refine rd_pp ?_
   refine rd_c <| rd_v rfl ?_
   refine rd_pp ?_
   refine rd_c <| rd_v rfl ?_
   refine rd_pp ?_
   refine rd_c <| rd_v rfl ?_
   refine rd_p0 ?_
   refine rd_dispE (ks := [.inr "most", .inr "alone", .inr "tags", .inr "quiet"]) S9 w6 r10 rfl rfl rfl (by decide +kernel) (fun H11 c12 w13 => ?_)
   have S14 := S9.call1 c12 w6
   obtain ⟨f_begins, f_ends, f_most, f_alone, f_tags, f_quiet⟩ := up6 f_begins f_ends f_most f_alone f_tags f_quiet c12
   have w_self := w_self.call c12 (by intro z; exact ne7 z)
   have r10 := SdRow.mono c12.le r10
   obtain ⟨F15, S16, le17, f18, eq19⟩ := fzSd S14 w13 z8 r10
   have f_begins := (qL qPat).mono le17 f_begins
   have f_ends := (qL qPat).mono le17 f_ends
   have f_most := qTh.mono le17 f_most
   have f_alone := qTh.mono le17 f_alone
   have f_tags := qTh.mono le17 f_tags
   have f_quiet := qTh.mono le17 f_quiet
   have w_self := w_self.fzO ne7 eq19
   obtain ⟨t20, e21, hm⟩ := bd_some hm
   refine rd_gn <| rd_seq <| rd_drop <| rd_call <| rd_cons <| rd_v rfl <| rd_nil ?_
   refine ⟨F15, _, _, t20, rfl, S16.sub, f18, e21, fun v25 F22 H23 c24 f26 => ?_⟩
   have S27 := S16.call0 c24
   obtain ⟨f_begins, f_ends, f_most, f_alone, f_tags, f_quiet⟩ := up6 f_begins f_ends f_most f_alone f_tags f_quiet c24
   have f18 := f18.up c24
   have w_self := w_self.call0 c24
   cases (show v25 = V.non from f26)
   refine rd_seq ?_
   refine rd_sfld ?_
   refine rd_cb <| rd_cons <| rd_v rfl <| rd_nil ?_
   refine rd_listQ (S27.l f_begins).r.q ?_
   refine alL' S27 (fun v28 F29 H30 c31 f32 => ?_)
   have S33 := S27.call0 c31
   obtain ⟨f_begins, f_ends, f_most, f_alone, f_tags, f_quiet⟩ := up6 f_begins f_ends f_most f_alone f_tags f_quiet c31
   have f18 := f18.up c31
   have w_self := w_self.call0 c31
   refine rd_v rfl ?_
   refine fset (fs' := [("openers", v28)]) S33 w_self T.c_Rule T.na_Rule_openers (by rfl) (by rfl) (fun H34 c35 w36 => ?_)
   have f37 : (qL qPat).r K F29 v28 a_begins := f32
   have S38 := S33.call1 c35 w_self
   obtain ⟨f_begins, f_ends, f_most, f_alone, f_tags, f_quiet⟩ := up6 f_begins f_ends f_most f_alone f_tags f_quiet c35
   obtain ⟨f18, f37⟩ := up2 f18 f37 c35
   refine rd_seq ?_
   refine rd_sfld ?_
   refine rd_cb <| rd_cons <| rd_v rfl <| rd_nil ?_
   refine rd_listQ (S38.l f_ends).r.q ?_
   refine alL' S38 (fun v39 F40 H41 c42 f43 => ?_)
   have S44 := S38.call0 c42
   obtain ⟨f_begins, f_ends, f_most, f_alone, f_tags, f_quiet⟩ := up6 f_begins f_ends f_most f_alone f_tags f_quiet c42
   obtain ⟨f18, f37⟩ := up2 f18 f37 c42
   have w36 := w36.call0 c42
   refine rd_v rfl ?_
   refine fset (fs' := [("openers", v28), ("closers", v39)]) S44 w36 T.c_Rule T.na_Rule_closers (by rfl) (by rfl) (fun H45 c46 w47 => ?_)
   have f48 : (qL qPat).r K F40 v39 a_ends := f43
   have S49 := S44.call1 c46 w36
   obtain ⟨f_begins, f_ends, f_most, f_alone, f_tags, f_quiet⟩ := up6 f_begins f_ends f_most f_alone f_tags f_quiet c46
   obtain ⟨f18, f37, f48⟩ := up3 f18 f37 f48 c46
   refine rd_sfld ?_
   refine rd_v rfl <| rd_v rfl ?_
   refine fset (fs' := [("openers", v28), ("closers", v39), ("settings", (V.ref p2))]) S49 w47 T.c_Rule T.na_Rule_settings (by rfl) (by rfl) (fun H50 c51 w52 => ?_)
   have f53 : qSd.r K F40 (V.ref p2) [(("most" : Str), a_most), (("alone" : Str), a_alone), (("tags" : Str), a_tags), (("quiet" : Str), a_quiet)] := f18
   have S54 := S49.call1 c51 w47
   obtain ⟨f_begins, f_ends, f_most, f_alone, f_tags, f_quiet⟩ := up6 f_begins f_ends f_most f_alone f_tags f_quiet c51
   obtain ⟨f18, f37, f48, f53⟩ := up4 f18 f37 f48 f53 c51
   cases hm
   exact hQ _ rfl _ _ v28 v39 (V.ref p2) S54 w52 f37 f48 f53
theorem newx_Rule {P0' : Addr → Prop} {F0 H0 F H : Hp} {Q : VK} {E : XK} {b0 : (List Pat)} {v0 : V} {b1 : (List Pat)} {v1 : V} {b2 : Th} {v2 : V} {b3 : Th} {v3 : V} {b4 : Th} {v4 : V} {b5 : Th} {v5 : V} {rr : (Except Str τ5ₓ)} (S : Sx P0' F0 H0 F H) (f0 : (qL qPat).r K F v0 b0) (f1 : (qL qPat).r K F v1 b1) (f2 : qTh.r K F v2 b2) (f3 : qTh.r K F v3 b3) (f4 : qTh.r K F v4 b4) (f5 : qTh.r K F v5 b5) (hm : m_Rule___init___vx b0 b1 b2 b3 b4 b5 = some rr) (k : ∀ r, rr = .ok r → ∀ v F' H', Sx P0 F H F' H' → qRule.r K F' v r → Q v H') (kx : ∀ e cls d F' H', rr = .error e → Sx P0 F H F' H' → ErrAt K H' "NoRule" ["field"] [.str e] cls d → E cls d H') : mkK (He.ga K "Rule") (fun vs => sp_Rule___init___vx K (vs ++ [])) E Q [v0, v1, v2, v3, v4, v5] H := by
 refine mk_plain S fun x dx H1 hx c1 w => ?_
 refine ⟨F, x, dx, v0, b0, v1, b1, v2, b2, v3, b3, v4, b4, v5, b5, rr, rfl, c1.sub, w, f0, f1, f2, f3, f4, f5, hm, fun r er F' H' u0 u1 u2 c w' k0 k1 k2 => ⟨rfl, ?_⟩, fun e cls d F' H' ee c ea => kx e cls d F' H' ee (c1.call c fun a z => .inr (by rw [z]; exact hx)) ea⟩
 obtain ⟨F2, S2, le, h3⟩ := fzI c1 hx c w'
 exact k r er _ F2 H' S2 ⟨x, dx, u0, u1, u2, rfl, h3, (qL qPat).mono le k0, (qL qPat).mono le k1, qSd.mono le k2⟩
theorem newx_RuleS {P0' : Addr → Prop} {F0 H0 F H : Hp} {Q : VK} {E : XK} {b0 : (List Pat)} {v0 : V} {b1 : (List Pat)} {v1 : V} {b2 : Th} {v2 : V} {b3 : Th} {v3 : V} {b4 : Th} {v4 : V} {b5 : Th} {v5 : V} {rr : (Except Str τ5ₓ)} (S : Sx P0' F0 H0 F H) (f0 : (qL qPat).r K F v0 b0) (f1 : (qL qPat).r K F v1 b1) (f2 : qTh.r K F v2 b2) (f3 : qTh.r K F v3 b3) (f4 : qTh.r K F v4 b4) (f5 : qTh.r K F v5 b5) (hm : m_Rule___init___vx b0 b1 b2 b3 b4 b5 = some rr) (k : ∀ r, rr = .ok r → ∀ v F' H', Sx P0 F H F' H' → qRule.r K F' v r → Q v H') (kx : ∀ e cls d F' H', rr = .error e → Sx P0 F H F' H' → ErrAt K H' "NoRule" ["field"] [.str e] cls d → E cls d H') : mkK (He.ga K "Rule") (sp_Rule___init___vx K) E Q [v0, v1, v2, v3, v4, v5] H := by
 refine mk_plain S fun x dx H1 hx c1 w => ?_
 refine ⟨F, x, dx, v0, b0, v1, b1, v2, b2, v3, b3, v4, b4, v5, b5, rr, rfl, c1.sub, w, f0, f1, f2, f3, f4, f5, hm, fun r er F' H' u0 u1 u2 c w' k0 k1 k2 => ⟨rfl, ?_⟩, fun e cls d F' H' ee c ea => kx e cls d F' H' ee (c1.call c fun a z => .inr (by rw [z]; exact hx)) ea⟩
 obtain ⟨F2, S2, le, h3⟩ := fzI c1 hx c w'
 exact k r er _ F2 H' S2 ⟨x, dx, u0, u1, u2, rfl, h3, (qL qPat).mono le k0, (qL qPat).mono le k1, qSd.mono le k2⟩
def sp_Form___str__ (K : PySem.W.Frag) : Sp := fun vs H Q _ => ∃ (F : Hp) (v_self : V) (a_self : (List Str)) (r : Str), vs = [v_self] ∧ Same F H ∧ qForm.r K F v_self a_self ∧ m_Form___str__ a_self = some r ∧ ∀ v F' H', Sx P0 F H F' H' → qS.r K F' v r → Q v H'
theorem sc_Form___str__ : FnScope ["self"] ["self"] (defScope s_Form___str__) := ⟨rfl, rfl, rfl, by decide +kernel, rfl, by decide +kernel, by decide +kernel⟩
theorem bn_Form___str__ (T : Tx P K mg) : Binds K (fdOf K ("Form", some "__str__")) ["self"] [] := FunD.bindsN T.F_Form___str__ fun _ _ _ _ _ _ us hl => match us, hl with | [_], _ => rfl
theorem ok_Form___str__ (T : Tx P K mg) : FnOk P w K mg base CX0 1 (He.fAd K ("Form", some "__str__")) (fdOf K ("Form", some "__str__")) ["self"] (sp_Form___str__ K) := by
 refine FunD.ok T.F_Form___str__ sc_Form___str__ (fun vs H0 Q E h => ?_) (fun cdv A outer s H0 vs Q E hr h => ?_)
 ·
  obtain ⟨_, _, _, _, rfl, _⟩ := h
  rfl
 ·
  obtain ⟨F0, v_self, a_self, r, rfl, hE, f_self, hm, hQ⟩ := h
  refine ⟨_, PSs.nox ((pss_one (ps_ret (pe_bmK (K := K) PySem.F.plainAttrs_str PySem.F.slot_str_join PySem.F.type_str_join (mt_joinKK (K := K)) pe_str (pa_cons (pe_fldK (pv 0) rfl) pa_nil))))), ?_⟩
  have S : Sx P0 F0 H0 F0 H0 := Sx.refl0 hE
  unfold m_Form___str__ at hm
  refine rd_ret <| rd_bm <| rd_c <| rd_ty (tyS_str) <| rd_cons <| rd_fld <| rd_v rfl ?_
  refine fld_Form_pieces T S f_self (fun u1 f2 => ?_)
  obtain ⟨g3, hm⟩ := gd_some hm
  cases hm
  refine rd_nil ?_
  refine rd_join (S.t f2).q g3 ?_
  exact hQ _ _ _ S rfl
theorem okv_Form_str (T : Tx P K mg) (n : Nat) : FnOk P w K mg base CX0 (3 * n + 1) (He.fAd K ("Form", some "__str__")) (fdOf K ("Form", some "__str__")) ["self"] (sp_pat_str n "Form" K) := by
 refine ((ok_Form___str__ T).mono (by omega)).imp fun vs H0 Q E h => ?_
 obtain ⟨F0, v, a, r, rfl, hE, f, hc, hm, hQ⟩ := h
 obtain ⟨h1, h2, h3⟩ := patN_some hm
 cases a with
  | both _ _ => exact absurd (show ("Both" : Str) = "Form" from hc) (by decide)
  | either _ _ => exact absurd (show ("Either" : Str) = "Form" from hc) (by decide)
  | form a =>
  exact ⟨F0, v, a, r, rfl, hE, f, h3, hQ⟩
theorem sc_Both_str : FnScope ["self"] ["self"] (defScope s_Both___str__) := ⟨rfl, rfl, rfl, by decide +kernel, rfl, by decide +kernel, by decide +kernel⟩
theorem bn_Both_str (T : Tx P K mg) : Binds K (fdOf K ("Both", some "__str__")) ["self"] [] := FunD.bindsN T.F_Both___str__ fun _ _ _ _ _ _ us hl => match us, hl with | [_], _ => rfl
theorem okv_Both_str (T : Tx P K mg) {n : Nat} (V : VM P w K mg base (3 * n + 1) "__str__" ["self"] (fun x => sp_pat_str n x K)) : FnOk P w K mg base CX0 (3 * n + 4) (He.fAd K ("Both", some "__str__")) (fdOf K ("Both", some "__str__")) ["self"] (sp_pat_str (n + 1) "Both" K) := by
 refine FunD.ok T.F_Both___str__ sc_Both_str (fun vs H0 Q E h => ?_) (fun cdv A outer s H0 vs Q E hr h => ?_)
 ·
  obtain ⟨_, _, _, _, rfl, _⟩ := h
  rfl
 ·
  obtain ⟨F0, v, a, r, rfl, hE, f, hc, hm, hQ⟩ := h
  obtain ⟨h1, h2, h3⟩ := patN_some hm
  cases a with
  | form _ => exact absurd (show ("Form" : Str) = "Both" from hc) (by decide)
  | either _ _ => exact absurd (show ("Either" : Str) = "Both" from hc) (by decide)
  | both l r' =>
  obtain ⟨p, dx, u, w', rfl, e2, rl, rr⟩ := (show qPatR K F0 v (.both l r') from f)
  replace rl : qPat.r K F0 u l := rl
  replace rr : qPat.r K F0 w' r' := rr
  have hl : l.ht ≤ n ∧ r'.ht ≤ n := by
   have h1 : max l.ht r'.ht + 1 ≤ n + 1 := h1
   omega
  have hf : l.forms.length + r'.forms.length ≤ 16 := by
   have h2 : (l.forms ++ r'.forms).length ≤ 16 := h2
   rw [List.length_append] at h2
   exact h2
  obtain ⟨x, ex, h3⟩ := bd_some (show (l.str.bind fun x => r'.str.bind fun y => gd (joinPok (" & " : Str) x y) (some (joinP (" & " : Str) x y))) = some r from h3)
  obtain ⟨y, ey, h3⟩ := bd_some h3
  obtain ⟨g, h3⟩ := gd_some h3
  cases h3
  obtain ⟨g1, g2, g3, g4, g5, g6, g7⟩ := joinPok_len g
  refine ⟨_, PSs.nox (pss_one (ps_ret (pe_joined (.cons pe_str (.cons (pe_fmt (pe_callTy (r := rStrW P w K mg base (3 * n + 1)) (cr_strW (hr.mono (by omega))) (by rfl) T.n_str (by decide +kernel) (pa_cons (pe_fldK (pv 0) rfl) pa_nil))) (.cons pe_str (.cons (pe_fmt (pe_callTy (r := rStrW P w K mg base (3 * n + 1)) (cr_strW (hr.mono (by omega))) (by rfl) T.n_str (by decide +kernel) (pa_cons (pe_fldK (pv 0) rfl) pa_nil))) (.cons pe_str .nil)))))))), ?_⟩
  have S : Sx P0 F0 H0 F0 H0 := Sx.refl0 hE
  refine rd_ret ?_
  refine rd_js ?_
  refine rd_c ?_
  refine js_at g3 ?_
  refine rd_js ?_
  refine rd_fm ?_
  refine rd_cb <| rd_cons <| rd_fld <| rd_v rfl ?_
  refine fd_at (S.sub _ _ e2) T.c_Both T.na_Both_left (by rfl) ?_
  refine rd_nil ?_
  refine V.strW S rl ?_
  refine ⟨F0, _, _, _, rfl, S.sub, rl, rfl, (patN_of hl.1 (by omega)).trans ex, fun v1 F1 H1 c1 f1 => ?_⟩
  cases (show v1 = .str x from f1)
  have S1 := S.call0 c1
  have rr := rr.up c1
  refine rd_stK ?_
  refine fm_at g1 ?_
  refine js_at g4 ?_
  refine rd_js ?_
  refine rd_c ?_
  refine js_at g5 ?_
  refine rd_js ?_
  refine rd_fm ?_
  refine rd_cb <| rd_cons <| rd_fld <| rd_v rfl ?_
  refine fd_at (S1.sub _ _ (S1.le _ _ e2)) T.c_Both T.na_Both_right (by rfl) ?_
  refine rd_nil ?_
  refine V.strW S1 rr ?_
  refine ⟨F1, _, _, _, rfl, S1.sub, rr, rfl, (patN_of hl.2 (by omega)).trans ey, fun v2 F2 H2 c2 f2 => ?_⟩
  cases (show v2 = .str y from f2)
  have S2 := S1.call0 c2
  refine rd_stK ?_
  refine fm_at g2 ?_
  refine js_at g6 ?_
  refine rd_js ?_
  refine rd_c ?_
  refine js_at g7 ?_
  refine rd_js0 ?_
  exact hQ _ _ _ S2 rfl
theorem sc_Either_str : FnScope ["self"] ["self"] (defScope s_Either___str__) := ⟨rfl, rfl, rfl, by decide +kernel, rfl, by decide +kernel, by decide +kernel⟩
theorem bn_Either_str (T : Tx P K mg) : Binds K (fdOf K ("Either", some "__str__")) ["self"] [] := FunD.bindsN T.F_Either___str__ fun _ _ _ _ _ _ us hl => match us, hl with | [_], _ => rfl
theorem okv_Either_str (T : Tx P K mg) {n : Nat} (V : VM P w K mg base (3 * n + 1) "__str__" ["self"] (fun x => sp_pat_str n x K)) : FnOk P w K mg base CX0 (3 * n + 4) (He.fAd K ("Either", some "__str__")) (fdOf K ("Either", some "__str__")) ["self"] (sp_pat_str (n + 1) "Either" K) := by
 refine FunD.ok T.F_Either___str__ sc_Either_str (fun vs H0 Q E h => ?_) (fun cdv A outer s H0 vs Q E hr h => ?_)
 ·
  obtain ⟨_, _, _, _, rfl, _⟩ := h
  rfl
 ·
  obtain ⟨F0, v, a, r, rfl, hE, f, hc, hm, hQ⟩ := h
  obtain ⟨h1, h2, h3⟩ := patN_some hm
  cases a with
  | form _ => exact absurd (show ("Form" : Str) = "Either" from hc) (by decide)
  | both _ _ => exact absurd (show ("Both" : Str) = "Either" from hc) (by decide)
  | either l r' =>
  obtain ⟨p, dx, u, w', rfl, e2, rl, rr⟩ := (show qPatR K F0 v (.either l r') from f)
  replace rl : qPat.r K F0 u l := rl
  replace rr : qPat.r K F0 w' r' := rr
  have hl : l.ht ≤ n ∧ r'.ht ≤ n := by
   have h1 : max l.ht r'.ht + 1 ≤ n + 1 := h1
   omega
  have hf : l.forms.length + r'.forms.length ≤ 16 := by
   have h2 : (l.forms ++ r'.forms).length ≤ 16 := h2
   rw [List.length_append] at h2
   exact h2
  obtain ⟨x, ex, h3⟩ := bd_some (show (l.str.bind fun x => r'.str.bind fun y => gd (joinPok (" | " : Str) x y) (some (joinP (" | " : Str) x y))) = some r from h3)
  obtain ⟨y, ey, h3⟩ := bd_some h3
  obtain ⟨g, h3⟩ := gd_some h3
  cases h3
  obtain ⟨g1, g2, g3, g4, g5, g6, g7⟩ := joinPok_len g
  refine ⟨_, PSs.nox (pss_one (ps_ret (pe_joined (.cons pe_str (.cons (pe_fmt (pe_callTy (r := rStrW P w K mg base (3 * n + 1)) (cr_strW (hr.mono (by omega))) (by rfl) T.n_str (by decide +kernel) (pa_cons (pe_fldK (pv 0) rfl) pa_nil))) (.cons pe_str (.cons (pe_fmt (pe_callTy (r := rStrW P w K mg base (3 * n + 1)) (cr_strW (hr.mono (by omega))) (by rfl) T.n_str (by decide +kernel) (pa_cons (pe_fldK (pv 0) rfl) pa_nil))) (.cons pe_str .nil)))))))), ?_⟩
  have S : Sx P0 F0 H0 F0 H0 := Sx.refl0 hE
  refine rd_ret ?_
  refine rd_js ?_
  refine rd_c ?_
  refine js_at g3 ?_
  refine rd_js ?_
  refine rd_fm ?_
  refine rd_cb <| rd_cons <| rd_fld <| rd_v rfl ?_
  refine fd_at (S.sub _ _ e2) T.c_Either T.na_Either_left (by rfl) ?_
  refine rd_nil ?_
  refine V.strW S rl ?_
  refine ⟨F0, _, _, _, rfl, S.sub, rl, rfl, (patN_of hl.1 (by omega)).trans ex, fun v1 F1 H1 c1 f1 => ?_⟩
  cases (show v1 = .str x from f1)
  have S1 := S.call0 c1
  have rr := rr.up c1
  refine rd_stK ?_
  refine fm_at g1 ?_
  refine js_at g4 ?_
  refine rd_js ?_
  refine rd_c ?_
  refine js_at g5 ?_
  refine rd_js ?_
  refine rd_fm ?_
  refine rd_cb <| rd_cons <| rd_fld <| rd_v rfl ?_
  refine fd_at (S1.sub _ _ (S1.le _ _ e2)) T.c_Either T.na_Either_right (by rfl) ?_
  refine rd_nil ?_
  refine V.strW S1 rr ?_
  refine ⟨F1, _, _, _, rfl, S1.sub, rr, rfl, (patN_of hl.2 (by omega)).trans ey, fun v2 F2 H2 c2 f2 => ?_⟩
  cases (show v2 = .str y from f2)
  have S2 := S1.call0 c2
  refine rd_stK ?_
  refine fm_at g2 ?_
  refine js_at g6 ?_
  refine rd_js ?_
  refine rd_c ?_
  refine js_at g7 ?_
  refine rd_js0 ?_
  exact hQ _ _ _ S2 rfl
theorem okv_void_str {C : Str} (hC : C = "Both" ∨ C = "Either") : FnOk P w K mg base CX0 1 (He.fAd K (C, some "__str__")) (fdOf K (C, some "__str__")) ["self"] (sp_pat_str 0 C K) := by
 have no : ∀ vs H Q E, ¬ sp_pat_str 0 C K vs H Q E := by
  intro vs H Q E h
  obtain ⟨_, _, a, _, _, _, _, hc, hm, _⟩ := h
  obtain ⟨h1, _, _⟩ := patN_some hm
  cases a with
  | form _ =>
   subst hc
   rcases hC with h | h
   ·
    exact absurd (show ("Form" : Str) = "Both" from h) (by decide)
   ·
    exact absurd (show ("Form" : Str) = "Either" from h) (by decide)
  | both l r => exact absurd (show max l.ht r.ht + 1 ≤ 0 from h1) (by omega)
  | either l r => exact absurd (show max l.ht r.ht + 1 ≤ 0 from h1) (by omega)
 exact ⟨fun vs H Q E h => absurd h (no vs H Q E), fun A outer s H args us vs Q E hr he hb hv h => absurd h (no vs H Q E)⟩
theorem vm_str (T : Tx P K mg) : ∀ n, VM P w K mg base (3 * n + 1) "__str__" ["self"] (fun x => sp_pat_str n x K)
 | 0 => ⟨fun x hx => by
  rcases hx with rfl | rfl | rfl
  ·
   exact ⟨T.c_Form, T.me_Form___str__, okv_Form_str T 0, bn_Form___str__ T⟩
  ·
   exact ⟨T.c_Both, T.me_Both___str__, okv_void_str (.inl rfl), bn_Both_str T⟩
  ·
   exact ⟨T.c_Either, T.me_Either___str__, okv_void_str (.inr rfl), bn_Either_str T⟩⟩
 | n + 1 => ⟨fun x hx => by
  have V := vm_str T n
  rcases hx with rfl | rfl | rfl
  ·
   exact ⟨T.c_Form, T.me_Form___str__, okv_Form_str T (n + 1), bn_Form___str__ T⟩
  ·
   exact ⟨T.c_Both, T.me_Both___str__, okv_Both_str T V, bn_Both_str T⟩
  ·
   exact ⟨T.c_Either, T.me_Either___str__, okv_Either_str T V, bn_Either_str T⟩⟩
def sp_are_among (K : PySem.W.Frag) : Sp := fun vs H Q _ => ∃ (F : Hp) (v_marks : V) (a_marks : (List Pat)) (v_others : V) (a_others : (List Pat)) (r : Bool), vs = [v_marks, v_others] ∧ Same F H ∧ (qL qPat).r K F v_marks a_marks ∧ (qL qPat).r K F v_others a_others ∧ m_are_among a_marks a_others = some r ∧ ∀ v F' H', Sx P0 F H F' H' → qB.r K F' v r → Q v H'
theorem sc_are_among : FnScope ["marks", "others", "texts", "mark"] ["marks", "others"] (defScope s_are_among) := ⟨rfl, rfl, rfl, by decide +kernel, rfl, by decide +kernel, by decide +kernel⟩
theorem bn_are_among (T : Tx P K mg) : Binds K (fdOf K ("are_among", none)) ["marks", "others"] [] := FunD.bindsN T.F_are_among fun _ _ _ _ _ _ us hl => match us, hl with | [_, _], _ => rfl
theorem ok_are_among (T : Tx P K mg) : FnOk P w K mg base CX0 13 (He.ga K "are_among") (fdOf K ("are_among", none)) ["marks", "others"] (sp_are_among K) := by
 refine FunD.ok T.F_are_among sc_are_among (fun vs H0 Q E h => ?_) (fun cdv A outer s H0 vs Q E hr h => ?_)
 ·
  obtain ⟨_, _, _, _, _, _, rfl, _⟩ := h
  rfl
 ·
  obtain ⟨F0, v_marks, a_marks, v_others, a_others, r, rfl, hE, f_marks, f_others, hm, hQ⟩ := h
  refine ⟨_, PSs.nox ((pss_cons (ps_set (i := 2) sc_are_among.nd rfl (dk rfl) (pe_lc (own := [("mark", 3)]) (tt := tYes) rfl sc_are_among.nd (pi_listK (pv 1)) (blkOk_by (N := ["marks", "others", "texts", "mark"]) (sc := defScope s_are_among) (by decide +kernel)) (fun _ _ _ _ _ => pg_name (i := 3) sc_are_among.nd rfl (Or.inl rfl)) (fun _ _ _ _ _ => pts_nil) (fun _ _ _ _ _ => (pe_callTy (r := rStrW P w K mg base 10) (cr_strW (hr.mono (by decide))) (by rfl) T.n_str (by decide +kernel) (pa_cons (pv 3) pa_nil))))) (pss_one (ps_ret (pe_callB (r := rAllK K) (cr_allK rfl) (by rfl) T.n_all (by decide +kernel) (pa_cons (pe_lc (own := [("mark", 3)]) (tt := tYes) rfl sc_are_among.nd (pi_listK (pv 0)) (blkOk_by (N := ["marks", "others", "texts", "mark"]) (sc := defScope s_are_among) (by decide +kernel)) (fun _ _ _ _ _ => pg_name (i := 3) sc_are_among.nd rfl (Or.inl rfl)) (fun _ _ _ _ _ => pts_nil) (fun _ _ _ _ _ => (pe_cmpR (r := rIn K false) op_in_seq (pe_callTy (r := rStrW P w K mg base 10) (cr_strW (hr.mono (by decide))) (by rfl) T.n_str (by decide +kernel) (pa_cons (pv 3) pa_nil)) (pv 2) rfl))) pa_nil)))))), ?_⟩
  have S : Sx P0 F0 H0 F0 H0 := Sx.refl0 hE
  unfold m_are_among at hm
  refine rd_seq <| rd_asg <| rd_lc <| rd_iL <| rd_v rfl ?_
  refine rd_wLF S (f_others) (fun p1 vs2 hq3 row4 => ?_)
  obtain ⟨g5, hm⟩ := gd_some hm
  obtain ⟨t6, e7, hm⟩ := bd_some hm
  refine rd_comp (B := qS) feedsL (typedRow row4) e7 g5 (Pc := P0) (fun _ z => z.elim) S.sub (fun (s8 : Unit) F H => True) ?_ ?_ ?_ ?_ ?_ ?_
  ·
   intro _ _ _ S9 _
   exact (Same.seq S9.sub (Same.seq S9.le hq3))
  ·
   trivial
  ·
   intros; trivial
  ·
   intros; trivial
  ·
   intro x10 v11 s12 o13 F14 H15 d16 acc17 f18 S19 w20 w21 n22 hm23 E24 N25 hN26 hE27
   obtain ⟨f_marks, f_others⟩ := up2 f_marks f_others S19
   have S28 := Sx.refl0 S19.sub
   unfold m_are_among_b1 at hm23
   have f18 := f18.up S19
   refine rd_gn <| rd_wp rfl <| rd_yes <| if_tt <| rd_cb <| rd_cons <| rd_v rfl <| rd_nil ?_
   refine VM.strW (vm_str T 3) S28 f18 ?_
   obtain ⟨t29, e30, hm23⟩ := bd_some hm23
   refine ⟨F14, _, _, t29, rfl, S28.sub, f18, rfl, e30, fun v34 F31 H32 c33 f35 => ?_⟩
   have S36 := S28.call0 c33
   obtain ⟨f_marks, f_others, f18⟩ := up3 f_marks f_others f18 c33
   cases (show v34 = (V.str (t29)) from f35)
   cases hm23
   refine rd_stK ?_
   exact hN26 _ _ _ _ rfl S36 rfl trivial
  intro p37 us38 F39 H40 n41 c42 w43 w44 r45
  have z46 := S.free0 n41
  have S47 := S.call0 c42
  obtain ⟨f_marks, f_others⟩ := up2 f_marks f_others c42
  have w48 : Ow P0 H0 _ _ _ _ := ⟨w44.fr, w44.at_, .inl z46⟩
  obtain ⟨F49, S50, le51, f52, _, eq53⟩ := fz S47 w48 z46 r45
  have f_marks := (qL qPat).mono le51 f_marks
  have f_others := (qL qPat).mono le51 f_others
  refine rd_gn <| rd_ret <| rd_cb <| rd_cons <| rd_lc <| rd_iL <| rd_v rfl ?_
  refine rd_wLF S50 (f_marks) (fun p54 vs55 hq56 row57 => ?_)
  obtain ⟨g58, hm⟩ := gd_some hm
  obtain ⟨t59, e60, hm⟩ := bd_some hm
  refine rd_comp (B := qB) feedsL (typedRow row57) e60 g58 (Pc := P0) (fun _ z => z.elim) S50.sub (fun (s61 : Unit) F H => True) ?_ ?_ ?_ ?_ ?_ ?_
  ·
   intro _ _ _ S62 _
   exact (Same.seq S62.sub (Same.seq S62.le hq56))
  ·
   trivial
  ·
   intros; trivial
  ·
   intros; trivial
  ·
   intro x63 v64 s65 o66 F67 H68 d69 acc70 f71 S72 w73 w74 n75 hm76 E77 N78 hN79 hE80
   obtain ⟨f_marks, f_others, f52⟩ := up3 f_marks f_others f52 S72
   have S81 := Sx.refl0 S72.sub
   unfold m_are_among_b2 at hm76
   have f71 := f71.up S72
   refine rd_gn <| rd_wp rfl <| rd_yes <| if_tt <| rd_op <| rd_cb <| rd_cons <| rd_v rfl <| rd_nil ?_
   refine VM.strW (vm_str T 3) S81 f71 ?_
   obtain ⟨t82, e83, hm76⟩ := bd_some hm76
   refine ⟨F67, _, _, t82, rfl, S81.sub, f71, rfl, e83, fun v87 F84 H85 c86 f88 => ?_⟩
   have S89 := S81.call0 c86
   obtain ⟨f_marks, f_others, f71, f52⟩ := up4 f_marks f_others f71 f52 c86
   cases (show v87 = (V.str (t82)) from f88)
   cases hm76
   refine rd_stK ?_
   refine rd_v rfl ?_
   refine rd_inS (S89.l f52).r.q ?_
   exact hN79 _ _ _ _ rfl S89 rfl trivial
  intro p90 us91 F92 H93 n94 c95 w96 w97 r98
  have z99 := S50.free0 n94
  have S100 := S50.call0 c95
  obtain ⟨f_marks, f_others, f52⟩ := up3 f_marks f_others f52 c95
  have w101 : Ow P0 H0 _ _ _ _ := ⟨w97.fr, w97.at_, .inl z99⟩
  obtain ⟨F102, S103, le104, f105, _, eq106⟩ := fz S100 w101 z99 r98
  have f_marks := (qL qPat).mono le104 f_marks
  have f_others := (qL qPat).mono le104 f_others
  have f52 := (qL qS).mono le104 f52
  cases hm
  refine rd_nil ?_
  refine rd_all (S103.l f105).r ?_
  exact hQ _ _ _ S103 rfl
def sp_Rule_is_part_of (K : PySem.W.Frag) : Sp := fun vs H Q _ => ∃ (F : Hp) (v_self : V) (a_self : τ3ₓ) (v_other : V) (a_other : τ3ₓ) (r : Bool), vs = [v_self, v_other] ∧ Same F H ∧ qRule.r K F v_self a_self ∧ qRule.r K F v_other a_other ∧ m_Rule_is_part_of a_self a_other = some r ∧ ∀ v F' H', Sx P0 F H F' H' → qB.r K F' v r → Q v H'
theorem sc_Rule_is_part_of : FnScope ["self", "other"] ["self", "other"] (defScope s_Rule_is_part_of) := ⟨rfl, rfl, rfl, by decide +kernel, rfl, by decide +kernel, by decide +kernel⟩
theorem bn_Rule_is_part_of (T : Tx P K mg) : Binds K (fdOf K ("Rule", some "is_part_of")) ["self", "other"] [] := FunD.bindsN T.F_Rule_is_part_of fun _ _ _ _ _ _ us hl => match us, hl with | [_, _], _ => rfl
theorem ok_Rule_is_part_of (T : Tx P K mg) : FnOk P w K mg base CX0 14 (He.fAd K ("Rule", some "is_part_of")) (fdOf K ("Rule", some "is_part_of")) ["self", "other"] (sp_Rule_is_part_of K) := by
 refine FunD.ok T.F_Rule_is_part_of sc_Rule_is_part_of (fun vs H0 Q E h => ?_) (fun cdv A outer s H0 vs Q E hr h => ?_)
 ·
  obtain ⟨_, _, _, _, _, _, rfl, _⟩ := h
  rfl
 ·
  obtain ⟨F0, v_self, a_self, v_other, a_other, r, rfl, hE, f_self, f_other, hm, hQ⟩ := h
  refine ⟨_, PSs.nox ((pss_cons (ps_if (pt_cmpR (r := rSdq K true) (op_sdNe hr.units) (pe_fldK (pv 0) rfl) (pe_fldK (pv 1) rfl) (nomark _)) (pss_one (ps_ret pe_bl)) pss_nil) (pss_one (ps_ret (pe_and (pe_call (ok_are_among T) (hr.mono (by decide)) (by rfl) T.g_are_among T.F_are_among.kp (bn_are_among T) .nil pass0 (pa_cons (pe_fldK (pv 0) rfl) (pa_cons (pe_fldK (pv 1) rfl) pa_nil))) (pe_one (pe_call (ok_are_among T) (hr.mono (by decide)) (by rfl) T.g_are_among T.F_are_among.kp (bn_are_among T) .nil pass0 (pa_cons (pe_fldK (pv 0) rfl) (pa_cons (pe_fldK (pv 1) rfl) pa_nil))))))))), ?_⟩
  have S : Sx P0 F0 H0 F0 H0 := Sx.refl0 hE
  unfold m_Rule_is_part_of at hm
  refine rd_seq <| rd_ifS <| rd_test <| rd_op <| rd_fld <| rd_v rfl ?_
  refine fld_Rule_settings T S f_self (fun u1 f2 => ?_)
  refine rd_fld <| rd_v rfl ?_
  refine fld_Rule_settings T S f_other (fun u3 f4 => ?_)
  obtain ⟨t5, e6, hm⟩ := bd_some hm
  refine rd_sdNe S f2 f4 e6 ?_
  refine rd_b ?_
  refine if_b hm (fun b7 hm => ?_) (fun b7 hm => ?_)
  ·
   cases hm
   refine rd_ret <| rd_c ?_
   exact hQ _ _ _ S rfl
  ·
   refine rd_next <| rd_ret <| rd_andV <| rd_call <| rd_cons <| rd_fld <| rd_v rfl ?_
   refine fld_Rule_openers T S f_self (fun u8 f9 => ?_)
   refine rd_cons <| rd_fld <| rd_v rfl ?_
   refine fld_Rule_openers T S f_other (fun u10 f11 => ?_)
   obtain ⟨t12, e13, hm⟩ := bd_some hm
   refine rd_nil ?_
   refine ⟨F0, _, _, _, _, t12, rfl, S.sub, f9, f11, e13, fun v17 F14 H15 c16 f18 => ?_⟩
   have S19 := S.call0 c16
   obtain ⟨f_self, f_other⟩ := up2 f_self f_other c16
   cases (show v17 = (V.bl (t12)) from f18)
   obtain ⟨t32, e33, hm⟩ := bd_some hm
   refine rd_b ?_
   refine andV_j (fun c H' => c = V.bl t32 ∧ ∃ F', Sx P0 F14 H15 F' H') ?_ ?_ ?_
   ·
    intro b34 Q35 q36
    have e33 := if_t e33 b34
    have S37 := Sx.refl0 S19.sub
    refine rd_call <| rd_cons <| rd_fld <| rd_v rfl ?_
    refine fld_Rule_closers T S37 f_self (fun u38 f39 => ?_)
    refine rd_cons <| rd_fld <| rd_v rfl ?_
    refine fld_Rule_closers T S37 f_other (fun u40 f41 => ?_)
    obtain ⟨t42, e43, e33⟩ := bd_some e33
    refine rd_nil ?_
    refine ⟨F14, _, _, _, _, t42, rfl, S37.sub, f39, f41, e43, fun v47 F44 H45 c46 f48 => ?_⟩
    have S49 := S37.call0 c46
    obtain ⟨f_self, f_other⟩ := up2 f_self f_other c46
    cases (show v47 = (V.bl (t42)) from f48)
    cases e33
    exact q36 _ _ ⟨rfl, F44, S49⟩
   ·
    intro b34
    have e33 := if_f e33 b34
    cases e33
    have S50 := Sx.refl0 S19.sub
    exact ⟨rfl, F14, S50⟩
   rintro b54 H52 ⟨rfl, F51, c53⟩
   have S55 := S19.call0 c53
   obtain ⟨f_self, f_other⟩ := up2 f_self f_other c53
   cases hm
   exact hQ _ _ _ S55 rfl
def sp_Rule___eq__ (K : PySem.W.Frag) : Sp := fun vs H Q _ => ∃ (F : Hp) (v_self : V) (a_self : τ3ₓ) (v_other : V) (a_other : τ3ₓ) (r : Bool), vs = [v_self, v_other] ∧ Same F H ∧ qRule.r K F v_self a_self ∧ qRule.r K F v_other a_other ∧ m_Rule___eq__ a_self a_other = some r ∧ ∀ v F' H', Sx P0 F H F' H' → qB.r K F' v r → Q v H'
theorem sc_Rule___eq__ : FnScope ["self", "other"] ["self", "other"] (defScope s_Rule___eq__) := ⟨rfl, rfl, rfl, by decide +kernel, rfl, by decide +kernel, by decide +kernel⟩
theorem bn_Rule___eq__ (T : Tx P K mg) : Binds K (fdOf K ("Rule", some "__eq__")) ["self", "other"] [] := FunD.bindsN T.F_Rule___eq__ fun _ _ _ _ _ _ us hl => match us, hl with | [_, _], _ => rfl
theorem ok_Rule___eq__ (T : Tx P K mg) : FnOk P w K mg base CX0 15 (He.fAd K ("Rule", some "__eq__")) (fdOf K ("Rule", some "__eq__")) ["self", "other"] (sp_Rule___eq__ K) := by
 refine FunD.ok T.F_Rule___eq__ sc_Rule___eq__ (fun vs H0 Q E h => ?_) (fun cdv A outer s H0 vs Q E hr h => ?_)
 ·
  obtain ⟨_, _, _, _, _, _, rfl, _⟩ := h
  rfl
 ·
  obtain ⟨F0, v_self, a_self, v_other, a_other, r, rfl, hE, f_self, f_other, hm, hQ⟩ := h
  refine ⟨_, PSs.nox ((pss_cons (ps_if (pt_not (pt_val (pe_callB (r := rIsi K) call_isi (by rfl) T.n_isinstance (by decide +kernel) (pa_cons (pv 1) (pa_cons (pe_glob (v := V.ref (He.ga K "Rule")) (by rfl) T.gc_Rule rfl) pa_nil))))) pss_dead pss_nil) (pss_one (ps_ret (pe_and (pe_meth (pv 0) T.c_Rule T.me_Rule_is_part_of (ok_Rule_is_part_of T) (hr.mono (by decide)) (bn_Rule_is_part_of T) .nil pass0 (pa_cons (pv 1) pa_nil)) (pe_one (pe_meth (pv 1) T.c_Rule T.me_Rule_is_part_of (ok_Rule_is_part_of T) (hr.mono (by decide)) (bn_Rule_is_part_of T) .nil pass0 (pa_cons (pv 0) pa_nil)))))))), ?_⟩
  have S : Sx P0 F0 H0 F0 H0 := Sx.refl0 hE
  unfold m_Rule___eq__ at hm
  refine rd_seq <| rd_ifS <| rd_not <| rd_tB <| rd_cb <| rd_cons <| rd_v rfl <| rd_cons <| rd_c <| rd_nil ?_
  refine oi_Rule T.c_Rule T.oe_Rule S f_other ?_
  refine rd_b <| if_ff <| rd_next <| rd_ret <| rd_andV <| rd_meth <| rd_v rfl ?_
  refine mt_Rule_is_part_of S f_self ?_
  obtain ⟨t1, e2, hm⟩ := bd_some hm
  refine rd_cons <| rd_v rfl <| rd_nil ?_
  refine ⟨F0, _, _, _, _, t1, rfl, S.sub, f_self, f_other, e2, fun v6 F3 H4 c5 f7 => ?_⟩
  have S8 := S.call0 c5
  obtain ⟨f_self, f_other⟩ := up2 f_self f_other c5
  cases (show v6 = (V.bl (t1)) from f7)
  obtain ⟨t17, e18, hm⟩ := bd_some hm
  refine rd_b ?_
  refine andV_j (fun c H' => c = V.bl t17 ∧ ∃ F', Sx P0 F3 H4 F' H') ?_ ?_ ?_
  ·
   intro b19 Q20 q21
   have e18 := if_t e18 b19
   have S22 := Sx.refl0 S8.sub
   refine rd_meth <| rd_v rfl ?_
   refine mt_Rule_is_part_of S22 f_other ?_
   obtain ⟨t23, e24, e18⟩ := bd_some e18
   refine rd_cons <| rd_v rfl <| rd_nil ?_
   refine ⟨F3, _, _, _, _, t23, rfl, S22.sub, f_other, f_self, e24, fun v28 F25 H26 c27 f29 => ?_⟩
   have S30 := S22.call0 c27
   obtain ⟨f_self, f_other⟩ := up2 f_self f_other c27
   cases (show v28 = (V.bl (t23)) from f29)
   cases e18
   exact q21 _ _ ⟨rfl, F25, S30⟩
  ·
   intro b19
   have e18 := if_f e18 b19
   cases e18
   have S31 := Sx.refl0 S8.sub
   exact ⟨rfl, F3, S31⟩
  rintro b35 H33 ⟨rfl, F32, c34⟩
  have S36 := S8.call0 c34
  obtain ⟨f_self, f_other⟩ := up2 f_self f_other c34
  cases hm
  exact hQ _ _ _ S36 rfl
def sp_Rule___eq___vi (K : PySem.W.Frag) : Sp := fun vs H Q _ => ∃ (F : Hp) (v_self : V) (a_self : τ3ₓ) (a_other : Int) (r : Bool), vs = [v_self, (V.int (a_other))] ∧ Same F H ∧ qRule.r K F v_self a_self ∧ m_Rule___eq___vi a_self a_other = some r ∧ ∀ v F' H', Sx P0 F H F' H' → qB.r K F' v r → Q v H'
theorem sc_Rule___eq___vi : FnScope ["self", "other"] ["self", "other"] (defScope s_Rule___eq__) := ⟨rfl, rfl, rfl, by decide +kernel, rfl, by decide +kernel, by decide +kernel⟩
theorem bn_Rule___eq___vi (T : Tx P K mg) : Binds K (fdOf K ("Rule", some "__eq__")) ["self", "other"] [] := FunD.bindsN T.F_Rule___eq__ fun _ _ _ _ _ _ us hl => match us, hl with | [_, _], _ => rfl
theorem ok_Rule___eq___vi (T : Tx P K mg) : FnOk P w K mg base CX0 1 (He.fAd K ("Rule", some "__eq__")) (fdOf K ("Rule", some "__eq__")) ["self", "other"] (sp_Rule___eq___vi K) := by
 refine FunD.ok T.F_Rule___eq__ sc_Rule___eq___vi (fun vs H0 Q E h => ?_) (fun cdv A outer s H0 vs Q E hr h => ?_)
 ·
  obtain ⟨_, _, _, _, _, rfl, _⟩ := h
  rfl
 ·
  obtain ⟨F0, v_self, a_self, a_other, r, rfl, hE, f_self, hm, hQ⟩ := h
  refine ⟨_, PSs.nox ((pss_cons (ps_if (pt_not (pt_val (pe_callB (r := rIsi K) call_isi (by rfl) T.n_isinstance (by decide +kernel) (pa_cons (pv 1) (pa_cons (pe_glob (v := V.ref (He.ga K "Rule")) (by rfl) T.gc_Rule rfl) pa_nil))))) (pss_one (ps_ret pe_bl)) pss_dead) pss_dead)), ?_⟩
  have S : Sx P0 F0 H0 F0 H0 := Sx.refl0 hE
  unfold m_Rule___eq___vi at hm
  cases hm
  refine rd_seq <| rd_ifS <| rd_not <| rd_tB <| rd_cb <| rd_cons <| rd_v rfl <| rd_cons <| rd_c <| rd_nil ?_
  refine rd_isOwnI T.oe_Rule ?_
  refine rd_b <| if_tt <| rd_ret <| rd_c ?_
  exact hQ _ _ _ S rfl
def sp_Rule___eq___vp (K : PySem.W.Frag) : Sp := fun vs H Q _ => ∃ (F : Hp) (v_self : V) (a_self : τ3ₓ) (v_other : V) (a_other : Pat) (r : Bool), vs = [v_self, v_other] ∧ Same F H ∧ qRule.r K F v_self a_self ∧ qPat.r K F v_other a_other ∧ m_Rule___eq___vp a_self a_other = some r ∧ ∀ v F' H', Sx P0 F H F' H' → qB.r K F' v r → Q v H'
theorem sc_Rule___eq___vp : FnScope ["self", "other"] ["self", "other"] (defScope s_Rule___eq__) := ⟨rfl, rfl, rfl, by decide +kernel, rfl, by decide +kernel, by decide +kernel⟩
theorem bn_Rule___eq___vp (T : Tx P K mg) : Binds K (fdOf K ("Rule", some "__eq__")) ["self", "other"] [] := FunD.bindsN T.F_Rule___eq__ fun _ _ _ _ _ _ us hl => match us, hl with | [_, _], _ => rfl
theorem ok_Rule___eq___vp (T : Tx P K mg) : FnOk P w K mg base CX0 1 (He.fAd K ("Rule", some "__eq__")) (fdOf K ("Rule", some "__eq__")) ["self", "other"] (sp_Rule___eq___vp K) := by
 refine FunD.ok T.F_Rule___eq__ sc_Rule___eq___vp (fun vs H0 Q E h => ?_) (fun cdv A outer s H0 vs Q E hr h => ?_)
 ·
  obtain ⟨_, _, _, _, _, _, rfl, _⟩ := h
  rfl
 ·
  obtain ⟨F0, v_self, a_self, v_other, a_other, r, rfl, hE, f_self, f_other, hm, hQ⟩ := h
  refine ⟨_, PSs.nox ((pss_cons (ps_if (pt_not (pt_val (pe_callB (r := rIsi K) call_isi (by rfl) T.n_isinstance (by decide +kernel) (pa_cons (pv 1) (pa_cons (pe_glob (v := V.ref (He.ga K "Rule")) (by rfl) T.gc_Rule rfl) pa_nil))))) (pss_one (ps_ret pe_bl)) pss_dead) pss_dead)), ?_⟩
  have S : Sx P0 F0 H0 F0 H0 := Sx.refl0 hE
  unfold m_Rule___eq___vp at hm
  cases hm
  refine rd_seq <| rd_ifS <| rd_not <| rd_tB <| rd_cb <| rd_cons <| rd_v rfl <| rd_cons <| rd_c <| rd_nil ?_
  refine rd_isOwnP T.pf T.oe_Rule S f_other ?_
  refine rd_b <| if_tt <| rd_ret <| rd_c ?_
  exact hQ _ _ _ S rfl
def sp_Form_forms (K : PySem.W.Frag) : Sp := fun vs H Q _ => ∃ (F : Hp) (v_self : V) (a_self : (List Str)) (r : (List (List Str))), vs = [v_self] ∧ Same F H ∧ qForm.r K F v_self a_self ∧ m_Form_forms a_self = some r ∧ ∀ v F' H', Sx P0 F H F' H' → (qL qForm).r K F' v r → Q v H'
theorem sc_Form_forms : FnScope ["self"] ["self"] (defScope s_Form_forms) := ⟨rfl, rfl, rfl, by decide +kernel, rfl, by decide +kernel, by decide +kernel⟩
theorem bn_Form_forms (T : Tx P K mg) : Binds K (fdOf K ("Form", some "forms")) ["self"] [] := FunD.bindsN T.F_Form_forms fun _ _ _ _ _ _ us hl => match us, hl with | [_], _ => rfl
theorem ok_Form_forms (T : Tx P K mg) : FnOk P w K mg base CX0 1 (He.fAd K ("Form", some "forms")) (fdOf K ("Form", some "forms")) ["self"] (sp_Form_forms K) := by
 refine FunD.ok T.F_Form_forms sc_Form_forms (fun vs H0 Q E h => ?_) (fun cdv A outer s H0 vs Q E hr h => ?_)
 ·
  obtain ⟨_, _, _, _, rfl, _⟩ := h
  rfl
 ·
  obtain ⟨F0, v_self, a_self, r, rfl, hE, f_self, hm, hQ⟩ := h
  refine ⟨_, PSs.nox ((pss_one (ps_ret (pe_lst (pa_cons (pv 0) pa_nil))))), ?_⟩
  have S : Sx P0 F0 H0 F0 H0 := Sx.refl0 hE
  unfold m_Form_forms at hm
  refine rd_ret <| rd_lst <| rd_cons <| rd_v rfl <| rd_nil <| rd_lK rfl ?_
  refine alL (K := K) (A := qForm) (xs := [a_self]) S (.cons f_self .nil) (fun v1 F2 H3 c4 f5 => ?_)
  have S6 := S.call0 c4
  have f_self := f_self.up c4
  cases hm
  exact hQ _ _ _ S6 f5
theorem okv_Form_forms (T : Tx P K mg) (n : Nat) : FnOk P w K mg base CX0 (n + 1) (He.fAd K ("Form", some "forms")) (fdOf K ("Form", some "forms")) ["self"] (sp_pat_forms n "Form" K) := by
 refine ((ok_Form_forms T).mono (by omega)).imp fun vs H0 Q E h => ?_
 obtain ⟨F0, v, a, r, rfl, hE, f, hc, hm, hQ⟩ := h
 obtain ⟨h1, h2, h3⟩ := patN_some hm
 cases h3
 cases a with
  | both _ _ => exact absurd (show ("Both" : Str) = "Form" from hc) (by decide)
  | either _ _ => exact absurd (show ("Either" : Str) = "Form" from hc) (by decide)
  | form a =>
  exact ⟨F0, v, a, _, rfl, hE, f, rfl, hQ⟩
theorem sc_Both_forms : FnScope ["self"] ["self"] (defScope s_Both_forms) := ⟨rfl, rfl, rfl, by decide +kernel, rfl, by decide +kernel, by decide +kernel⟩
theorem bn_Both_forms (T : Tx P K mg) : Binds K (fdOf K ("Both", some "forms")) ["self"] [] := FunD.bindsN T.F_Both_forms fun _ _ _ _ _ _ us hl => match us, hl with | [_], _ => rfl
theorem okv_Both_forms (T : Tx P K mg) {n : Nat} (V : VM P w K mg base (n + 1) "forms" ["self"] (fun x => sp_pat_forms n x K)) : FnOk P w K mg base CX0 (n + 2) (He.fAd K ("Both", some "forms")) (fdOf K ("Both", some "forms")) ["self"] (sp_pat_forms (n + 1) "Both" K) := by
 refine FunD.ok T.F_Both_forms sc_Both_forms (fun vs H0 Q E h => ?_) (fun cdv A outer s H0 vs Q E hr h => ?_)
 ·
  obtain ⟨_, _, _, _, rfl, _⟩ := h
  rfl
 ·
  obtain ⟨F0, v, a, r, rfl, hE, f, hc, hm, hQ⟩ := h
  obtain ⟨h1, h2, h3⟩ := patN_some hm
  cases h3
  cases a with
  | form _ => exact absurd (show ("Form" : Str) = "Both" from hc) (by decide)
  | either _ _ => exact absurd (show ("Either" : Str) = "Both" from hc) (by decide)
  | both l r' =>
  obtain ⟨p, dx, u, w', rfl, e2, rl, rr⟩ := (show qPatR K F0 v (.both l r') from f)
  replace rl : qPat.r K F0 u l := rl
  replace rr : qPat.r K F0 w' r' := rr
  have hl : l.ht ≤ n ∧ r'.ht ≤ n := by
   have h1 : max l.ht r'.ht + 1 ≤ n + 1 := h1
   omega
  have hf : l.forms.length + r'.forms.length ≤ 16 := by
   have h2 : (l.forms ++ r'.forms).length ≤ 16 := h2
   rw [List.length_append] at h2
   exact h2
  refine ⟨_, PSs.nox (pss_one (ps_ret (pe_op op_cat (pe_methV0 (E := E0) (pe_fldK (pv 0) rfl)) (pe_methV0 (E := E0) (pe_fldK (pv 0) rfl))))), ?_⟩
  have S : Sx P0 F0 H0 F0 H0 := Sx.refl0 hE
  refine rd_ret <| rd_op ?_
  refine rd_methV ?_
  refine rd_fld <| rd_v rfl ?_
  refine fd_at (S.sub _ _ e2) T.c_Both T.na_Both_left (by rfl) ?_
  refine V.call (hr.mono (by omega)) S rl (kt := ?_)
  refine rd_nil ?_
  refine ⟨F0, _, _, _, rfl, S.sub, rl, rfl, patN_of hl.1 (by omega), fun v1 F1 H1 c1 f1 => ?_⟩
  have S1 := S.call0 c1
  have rr := rr.up c1
  refine rd_methV ?_
  refine rd_fld <| rd_v rfl ?_
  refine fd_at (S1.sub _ _ (S1.le _ _ e2)) T.c_Both T.na_Both_right (by rfl) ?_
  refine V.call (hr.mono (by omega)) S1 rr (kt := ?_)
  refine rd_nil ?_
  refine ⟨F1, _, _, _, rfl, S1.sub, rr, rfl, patN_of hl.2 (by omega), fun v2 F2 H2 c2 f2 => ?_⟩
  have S2 := S1.call0 c2
  have f1 := f1.up c2
  refine rd_cat (S2.l f1) (S2.l f2) (decide_eq_true (Nat.le_trans hf (by rw [sizeLine_eq]; decide))) ?_
  refine alL' S2 (fun v3 F3 H3 c3 f3 => ?_)
  exact hQ _ _ _ (S2.call0 c3) f3
theorem sc_Either_forms : FnScope ["self"] ["self"] (defScope s_Either_forms) := ⟨rfl, rfl, rfl, by decide +kernel, rfl, by decide +kernel, by decide +kernel⟩
theorem bn_Either_forms (T : Tx P K mg) : Binds K (fdOf K ("Either", some "forms")) ["self"] [] := FunD.bindsN T.F_Either_forms fun _ _ _ _ _ _ us hl => match us, hl with | [_], _ => rfl
theorem okv_Either_forms (T : Tx P K mg) {n : Nat} (V : VM P w K mg base (n + 1) "forms" ["self"] (fun x => sp_pat_forms n x K)) : FnOk P w K mg base CX0 (n + 2) (He.fAd K ("Either", some "forms")) (fdOf K ("Either", some "forms")) ["self"] (sp_pat_forms (n + 1) "Either" K) := by
 refine FunD.ok T.F_Either_forms sc_Either_forms (fun vs H0 Q E h => ?_) (fun cdv A outer s H0 vs Q E hr h => ?_)
 ·
  obtain ⟨_, _, _, _, rfl, _⟩ := h
  rfl
 ·
  obtain ⟨F0, v, a, r, rfl, hE, f, hc, hm, hQ⟩ := h
  obtain ⟨h1, h2, h3⟩ := patN_some hm
  cases h3
  cases a with
  | form _ => exact absurd (show ("Form" : Str) = "Either" from hc) (by decide)
  | both _ _ => exact absurd (show ("Both" : Str) = "Either" from hc) (by decide)
  | either l r' =>
  obtain ⟨p, dx, u, w', rfl, e2, rl, rr⟩ := (show qPatR K F0 v (.either l r') from f)
  replace rl : qPat.r K F0 u l := rl
  replace rr : qPat.r K F0 w' r' := rr
  have hl : l.ht ≤ n ∧ r'.ht ≤ n := by
   have h1 : max l.ht r'.ht + 1 ≤ n + 1 := h1
   omega
  have hf : l.forms.length + r'.forms.length ≤ 16 := by
   have h2 : (l.forms ++ r'.forms).length ≤ 16 := h2
   rw [List.length_append] at h2
   exact h2
  refine ⟨_, PSs.nox (pss_one (ps_ret (pe_op op_cat (pe_methV0 (E := E0) (pe_fldK (pv 0) rfl)) (pe_methV0 (E := E0) (pe_fldK (pv 0) rfl))))), ?_⟩
  have S : Sx P0 F0 H0 F0 H0 := Sx.refl0 hE
  refine rd_ret <| rd_op ?_
  refine rd_methV ?_
  refine rd_fld <| rd_v rfl ?_
  refine fd_at (S.sub _ _ e2) T.c_Either T.na_Either_left (by rfl) ?_
  refine V.call (hr.mono (by omega)) S rl (kt := ?_)
  refine rd_nil ?_
  refine ⟨F0, _, _, _, rfl, S.sub, rl, rfl, patN_of hl.1 (by omega), fun v1 F1 H1 c1 f1 => ?_⟩
  have S1 := S.call0 c1
  have rr := rr.up c1
  refine rd_methV ?_
  refine rd_fld <| rd_v rfl ?_
  refine fd_at (S1.sub _ _ (S1.le _ _ e2)) T.c_Either T.na_Either_right (by rfl) ?_
  refine V.call (hr.mono (by omega)) S1 rr (kt := ?_)
  refine rd_nil ?_
  refine ⟨F1, _, _, _, rfl, S1.sub, rr, rfl, patN_of hl.2 (by omega), fun v2 F2 H2 c2 f2 => ?_⟩
  have S2 := S1.call0 c2
  have f1 := f1.up c2
  refine rd_cat (S2.l f1) (S2.l f2) (decide_eq_true (Nat.le_trans hf (by rw [sizeLine_eq]; decide))) ?_
  refine alL' S2 (fun v3 F3 H3 c3 f3 => ?_)
  exact hQ _ _ _ (S2.call0 c3) f3
theorem okv_void_forms {C : Str} (hC : C = "Both" ∨ C = "Either") : FnOk P w K mg base CX0 1 (He.fAd K (C, some "forms")) (fdOf K (C, some "forms")) ["self"] (sp_pat_forms 0 C K) := by
 have no : ∀ vs H Q E, ¬ sp_pat_forms 0 C K vs H Q E := by
  intro vs H Q E h
  obtain ⟨_, _, a, _, _, _, _, hc, hm, _⟩ := h
  obtain ⟨h1, _, _⟩ := patN_some hm
  cases a with
  | form _ =>
   subst hc
   rcases hC with h | h
   ·
    exact absurd (show ("Form" : Str) = "Both" from h) (by decide)
   ·
    exact absurd (show ("Form" : Str) = "Either" from h) (by decide)
  | both l r => exact absurd (show max l.ht r.ht + 1 ≤ 0 from h1) (by omega)
  | either l r => exact absurd (show max l.ht r.ht + 1 ≤ 0 from h1) (by omega)
 exact ⟨fun vs H Q E h => absurd h (no vs H Q E), fun A outer s H args us vs Q E hr he hb hv h => absurd h (no vs H Q E)⟩
theorem vm_forms (T : Tx P K mg) : ∀ n, VM P w K mg base (n + 1) "forms" ["self"] (fun x => sp_pat_forms n x K)
 | 0 => ⟨fun x hx => by
  rcases hx with rfl | rfl | rfl
  ·
   exact ⟨T.c_Form, T.me_Form_forms, okv_Form_forms T 0, bn_Form_forms T⟩
  ·
   exact ⟨T.c_Both, T.me_Both_forms, okv_void_forms (.inl rfl), bn_Both_forms T⟩
  ·
   exact ⟨T.c_Either, T.me_Either_forms, okv_void_forms (.inr rfl), bn_Either_forms T⟩⟩
 | n + 1 => ⟨fun x hx => by
  have V := vm_forms T n
  rcases hx with rfl | rfl | rfl
  ·
   exact ⟨T.c_Form, T.me_Form_forms, okv_Form_forms T (n + 1), bn_Form_forms T⟩
  ·
   exact ⟨T.c_Both, T.me_Both_forms, okv_Both_forms T V, bn_Both_forms T⟩
  ·
   exact ⟨T.c_Either, T.me_Either_forms, okv_Either_forms T V, bn_Either_forms T⟩⟩
def sp_Either___init__ (K : PySem.W.Frag) : Sp := fun vs H Q _ => ∃ (F : Hp) (p_self : Addr) (dx : Addr) (v_one : V) (a_one : Pat) (v_other : V) (a_other : Pat) (r : (Pat × Pat)), vs = [.ref p_self, v_one, v_other] ∧ Same F H ∧ Ow (fun a => a = p_self) H F H p_self (.ins (He.ga K "Either") dx []) ∧ qPat.r K F v_one a_one ∧ qPat.r K F v_other a_other ∧ m_Either___init__ a_one a_other = some r ∧ ∀ (F' H' : Hp) (u0 u1 : V), Sx (fun a => a = p_self) F H F' H' → Ow (fun a => a = p_self) H F' H' p_self (.ins (He.ga K "Either") dx [("left", u0), ("right", u1)]) → qPat.r K F' u0 r.1 → qPat.r K F' u1 r.2 → Q .non H'
theorem sc_Either___init__ : FnScope ["self", "one", "other"] ["self", "one", "other"] (defScope s_Either___init__) := ⟨rfl, rfl, rfl, by decide +kernel, rfl, by decide +kernel, by decide +kernel⟩
theorem bn_Either___init__ (T : Tx P K mg) : Binds K (fdOf K ("Either", some "__init__")) ["self", "one", "other"] [] := FunD.bindsN T.F_Either___init__ fun _ _ _ _ _ _ us hl => match us, hl with | [_, _, _], _ => rfl
theorem ok_Either___init__ (T : Tx P K mg) : FnOk P w K mg base CX0 5 (He.fAd K ("Either", some "__init__")) (fdOf K ("Either", some "__init__")) ["self", "one", "other"] (sp_Either___init__ K) := by
 refine FunD.ok T.F_Either___init__ sc_Either___init__ (fun vs H0 Q E h => ?_) (fun cdv A outer s H0 vs Q E hr h => ?_)
 ·
  obtain ⟨_, _, _, _, _, _, _, _, rfl, _⟩ := h
  rfl
 ·
  obtain ⟨F0, p_self, dx, v_one, a_one, v_other, a_other, r, rfl, hE, w_self, f_one, f_other, hm, hQ⟩ := h
  refine ⟨_, PSs.nox ((pss_cons (ps_if (pt_cmpR op_gt (pe_op op_add (pe_callB (r := rLenQ K) cr_lenQ (by rfl) T.n_len (by decide +kernel) (pa_cons (pe_methV0 (E := E0) (pv 1)) pa_nil)) (pe_callB (r := rLenQ K) cr_lenQ (by rfl) T.n_len (by decide +kernel) (pa_cons (pe_methV0 (E := E0) (pv 2)) pa_nil))) (pe_glob (v := V.int 3) (by rfl) (T.k_MOST_FORMS.choose_spec) ⟨_, rfl⟩) (nomark _)) (pss_one ps_dead) pss_nil) (pss_cons (ps_fld (pv 0) (pv 1) rfl) (pss_one (ps_fld (pv 0) (pv 2) rfl))))), ?_⟩
  have S : Sx (fun a => a = p_self) F0 H0 F0 H0 := Sx.refl hE (live1 w_self)
  unfold m_Either___init__ at hm
  refine rd_seq <| rd_ifS <| rd_test <| rd_op <| rd_op <| rd_cb <| rd_cons ?_
  refine rd_methV ?_
  refine rd_v rfl ?_
  refine VM.call (vm_forms T 3) (hr.mono (by decide)) S f_one ?_
  obtain ⟨t1, e2, hm⟩ := bd_some hm
  refine rd_nil ?_
  refine ⟨F0, _, _, t1, rfl, S.sub, f_one, rfl, e2, fun v6 F3 H4 c5 f7 => ?_⟩
  have S8 := S.call0 c5
  obtain ⟨f_one, f_other⟩ := up2 f_one f_other c5
  have w_self := w_self.call0 c5
  refine rd_nil ?_
  refine rd_lenQ (S8.l f7).r.q ?_
  refine rd_cb <| rd_cons ?_
  refine rd_methV ?_
  refine rd_v rfl ?_
  refine VM.call (vm_forms T 3) (hr.mono (by decide)) S8 f_other ?_
  obtain ⟨t9, e10, hm⟩ := bd_some hm
  refine rd_nil ?_
  refine ⟨F3, _, _, t9, rfl, S8.sub, f_other, rfl, e10, fun v14 F11 H12 c13 f15 => ?_⟩
  have S16 := S8.call0 c13
  obtain ⟨f_one, f_other⟩ := up2 f_one f_other c13
  have w_self := w_self.call0 c13
  refine rd_nil ?_
  refine rd_lenQ (S16.l f15).r.q ?_
  refine rd_I0 <| rd_c <| rd_I0 <| rd_b ?_
  refine if_b hm (fun b17 hm => ?_) (fun b17 hm => ?_)
  ·
   cases hm
  ·
   refine rd_next <| rd_seq ?_
   refine rd_sfld ?_
   refine rd_v rfl <| rd_v rfl ?_
   refine fset (fs' := [("left", v_one)]) S16 w_self T.c_Either T.na_Either_left (by rfl) (by rfl) (fun H18 c19 w20 => ?_)
   have f21 : qPat.r K F11 v_one a_one := f_one
   have S22 := S16.call1 c19 w_self
   obtain ⟨f_one, f_other, f21⟩ := up3 f_one f_other f21 c19
   refine rd_sfld ?_
   refine rd_v rfl <| rd_v rfl ?_
   refine fset (fs' := [("left", v_one), ("right", v_other)]) S22 w20 T.c_Either T.na_Either_right (by rfl) (by rfl) (fun H23 c24 w25 => ?_)
   have f26 : qPat.r K F11 v_other a_other := f_other
   have S27 := S22.call1 c24 w20
   obtain ⟨f_one, f_other, f21, f26⟩ := up4 f_one f_other f21 f26 c24
   cases hm
   exact hQ _ _ v_one v_other S27 w25 f21 f26
theorem new_Either {P0' : Addr → Prop} {F0 H0 F H : Hp} {Q : VK} {E : XK} {b0 : Pat} {v0 : V} {b1 : Pat} {v1 : V} {r : (Pat × Pat)} (S : Sx P0' F0 H0 F H) (f0 : qPat.r K F v0 b0) (f1 : qPat.r K F v1 b1) (hm : m_Either___init__ b0 b1 = some r) (k : ∀ v F' H', Sx P0 F H F' H' → qEither.r K F' v r → Q v H') : mkK (He.ga K "Either") (fun vs => sp_Either___init__ K (vs ++ [])) E Q [v0, v1] H := by
 refine mk_plain S fun x dx H1 hx c1 w => ?_
 refine ⟨F, x, dx, v0, b0, v1, b1, r, rfl, c1.sub, w, f0, f1, hm, fun F' H' u0 u1 c w' k0 k1 => ⟨rfl, ?_⟩⟩
 obtain ⟨F2, S2, le, h3⟩ := fzI c1 hx c w'
 exact k _ F2 H' S2 ⟨x, dx, u0, u1, rfl, h3, qPat.mono le k0, qPat.mono le k1⟩
def sp_Pattern___or__ (K : PySem.W.Frag) : Sp := fun vs H Q _ => ∃ (F : Hp) (v_self : V) (a_self : Pat) (v_other : V) (a_other : Pat) (r : Pat), vs = [v_self, v_other] ∧ Same F H ∧ qPat.r K F v_self a_self ∧ qPat.r K F v_other a_other ∧ m_Pattern___or__ a_self a_other = some r ∧ ∀ v F' H', Sx P0 F H F' H' → qPat.r K F' v r → Q v H'
theorem sc_Pattern___or__ : FnScope ["self", "other"] ["self", "other"] (defScope s_Pattern___or__) := ⟨rfl, rfl, rfl, by decide +kernel, rfl, by decide +kernel, by decide +kernel⟩
theorem bn_Pattern___or__ (T : Tx P K mg) : Binds K (fdOf K ("Pattern", some "__or__")) ["self", "other"] [] := FunD.bindsN T.F_Pattern___or__ fun _ _ _ _ _ _ us hl => match us, hl with | [_, _], _ => rfl
theorem ok_Pattern___or__ (T : Tx P K mg) : FnOk P w K mg base CX0 7 (He.fAd K ("Pattern", some "__or__")) (fdOf K ("Pattern", some "__or__")) ["self", "other"] (sp_Pattern___or__ K) := by
 refine FunD.ok T.F_Pattern___or__ sc_Pattern___or__ (fun vs H0 Q E h => ?_) (fun cdv A outer s H0 vs Q E hr h => ?_)
 ·
  obtain ⟨_, _, _, _, _, _, rfl, _⟩ := h
  rfl
 ·
  obtain ⟨F0, v_self, a_self, v_other, a_other, r, rfl, hE, f_self, f_other, hm, hQ⟩ := h
  refine ⟨_, PSs.nox ((pss_cons (ps_if (pt_not (pt_val (pe_callB (r := rIsi K) call_isi (by rfl) T.n_isinstance (by decide +kernel) (pa_cons (pv 1) (pa_cons (pe_glob (v := V.ref (He.ga K "Pattern")) (by rfl) T.gc_Pattern rfl) pa_nil))))) pss_dead pss_nil) (pss_one (ps_ret (pe_make T.mk_Either (ok_Either___init__ T) (hr.mono (by decide)) (by rfl) T.gc_Either (bn_Either___init__ T) .nil pass0 (pa_cons (pv 0) (pa_cons (pv 1) pa_nil))))))), ?_⟩
  have S : Sx P0 F0 H0 F0 H0 := Sx.refl0 hE
  unfold m_Pattern___or__ at hm
  obtain ⟨t1, e2, hm⟩ := bd_some hm
  refine rd_seq <| rd_ifS <| rd_not <| rd_tB <| rd_cb <| rd_cons <| rd_v rfl <| rd_cons <| rd_c <| rd_nil ?_
  refine rd_isPat T.pf S f_other ?_
  refine rd_b <| if_ff <| rd_next <| rd_ret <| rd_make <| rd_cons <| rd_v rfl <| rd_cons <| rd_v rfl <| rd_nil ?_
  refine new_Either S f_self f_other e2 (fun v3 F4 H5 c6 f7 => ?_)
  have S8 := S.call0 c6
  obtain ⟨f_self, f_other⟩ := up2 f_self f_other c6
  have f9 : qPat.r K F4 v3 (Pat.either (t1).1 (t1).2) := (show qPat.r K F4 v3 _ from f7)
  cases hm
  exact hQ _ _ _ S8 f9
def sp_Both___init__ (K : PySem.W.Frag) : Sp := fun vs H Q _ => ∃ (F : Hp) (p_self : Addr) (dx : Addr) (v_one : V) (a_one : Pat) (v_other : V) (a_other : Pat) (r : (Pat × Pat)), vs = [.ref p_self, v_one, v_other] ∧ Same F H ∧ Ow (fun a => a = p_self) H F H p_self (.ins (He.ga K "Both") dx []) ∧ qPat.r K F v_one a_one ∧ qPat.r K F v_other a_other ∧ m_Both___init__ a_one a_other = some r ∧ ∀ (F' H' : Hp) (u0 u1 : V), Sx (fun a => a = p_self) F H F' H' → Ow (fun a => a = p_self) H F' H' p_self (.ins (He.ga K "Both") dx [("left", u0), ("right", u1)]) → qPat.r K F' u0 r.1 → qPat.r K F' u1 r.2 → Q .non H'
theorem sc_Both___init__ : FnScope ["self", "one", "other"] ["self", "one", "other"] (defScope s_Both___init__) := ⟨rfl, rfl, rfl, by decide +kernel, rfl, by decide +kernel, by decide +kernel⟩
theorem bn_Both___init__ (T : Tx P K mg) : Binds K (fdOf K ("Both", some "__init__")) ["self", "one", "other"] [] := FunD.bindsN T.F_Both___init__ fun _ _ _ _ _ _ us hl => match us, hl with | [_, _, _], _ => rfl
theorem ok_Both___init__ (T : Tx P K mg) : FnOk P w K mg base CX0 5 (He.fAd K ("Both", some "__init__")) (fdOf K ("Both", some "__init__")) ["self", "one", "other"] (sp_Both___init__ K) := by
 refine FunD.ok T.F_Both___init__ sc_Both___init__ (fun vs H0 Q E h => ?_) (fun cdv A outer s H0 vs Q E hr h => ?_)
 ·
  obtain ⟨_, _, _, _, _, _, _, _, rfl, _⟩ := h
  rfl
 ·
  obtain ⟨F0, p_self, dx, v_one, a_one, v_other, a_other, r, rfl, hE, w_self, f_one, f_other, hm, hQ⟩ := h
  refine ⟨_, PSs.nox ((pss_cons (ps_if (pt_cmpR op_gt (pe_op op_add (pe_callB (r := rLenQ K) cr_lenQ (by rfl) T.n_len (by decide +kernel) (pa_cons (pe_methV0 (E := E0) (pv 1)) pa_nil)) (pe_callB (r := rLenQ K) cr_lenQ (by rfl) T.n_len (by decide +kernel) (pa_cons (pe_methV0 (E := E0) (pv 2)) pa_nil))) (pe_glob (v := V.int 3) (by rfl) (T.k_MOST_FORMS.choose_spec) ⟨_, rfl⟩) (nomark _)) (pss_one ps_dead) pss_nil) (pss_cons (ps_fld (pv 0) (pv 1) rfl) (pss_one (ps_fld (pv 0) (pv 2) rfl))))), ?_⟩
  have S : Sx (fun a => a = p_self) F0 H0 F0 H0 := Sx.refl hE (live1 w_self)
  unfold m_Both___init__ at hm
  refine rd_seq <| rd_ifS <| rd_test <| rd_op <| rd_op <| rd_cb <| rd_cons ?_
  refine rd_methV ?_
  refine rd_v rfl ?_
  refine VM.call (vm_forms T 3) (hr.mono (by decide)) S f_one ?_
  obtain ⟨t1, e2, hm⟩ := bd_some hm
  refine rd_nil ?_
  refine ⟨F0, _, _, t1, rfl, S.sub, f_one, rfl, e2, fun v6 F3 H4 c5 f7 => ?_⟩
  have S8 := S.call0 c5
  obtain ⟨f_one, f_other⟩ := up2 f_one f_other c5
  have w_self := w_self.call0 c5
  refine rd_nil ?_
  refine rd_lenQ (S8.l f7).r.q ?_
  refine rd_cb <| rd_cons ?_
  refine rd_methV ?_
  refine rd_v rfl ?_
  refine VM.call (vm_forms T 3) (hr.mono (by decide)) S8 f_other ?_
  obtain ⟨t9, e10, hm⟩ := bd_some hm
  refine rd_nil ?_
  refine ⟨F3, _, _, t9, rfl, S8.sub, f_other, rfl, e10, fun v14 F11 H12 c13 f15 => ?_⟩
  have S16 := S8.call0 c13
  obtain ⟨f_one, f_other⟩ := up2 f_one f_other c13
  have w_self := w_self.call0 c13
  refine rd_nil ?_
  refine rd_lenQ (S16.l f15).r.q ?_
  refine rd_I0 <| rd_c <| rd_I0 <| rd_b ?_
  refine if_b hm (fun b17 hm => ?_) (fun b17 hm => ?_)
  ·
   cases hm
  ·
   refine rd_next <| rd_seq ?_
   refine rd_sfld ?_
   refine rd_v rfl <| rd_v rfl ?_
   refine fset (fs' := [("left", v_one)]) S16 w_self T.c_Both T.na_Both_left (by rfl) (by rfl) (fun H18 c19 w20 => ?_)
   have f21 : qPat.r K F11 v_one a_one := f_one
   have S22 := S16.call1 c19 w_self
   obtain ⟨f_one, f_other, f21⟩ := up3 f_one f_other f21 c19
   refine rd_sfld ?_
   refine rd_v rfl <| rd_v rfl ?_
   refine fset (fs' := [("left", v_one), ("right", v_other)]) S22 w20 T.c_Both T.na_Both_right (by rfl) (by rfl) (fun H23 c24 w25 => ?_)
   have f26 : qPat.r K F11 v_other a_other := f_other
   have S27 := S22.call1 c24 w20
   obtain ⟨f_one, f_other, f21, f26⟩ := up4 f_one f_other f21 f26 c24
   cases hm
   exact hQ _ _ v_one v_other S27 w25 f21 f26
theorem new_Both {P0' : Addr → Prop} {F0 H0 F H : Hp} {Q : VK} {E : XK} {b0 : Pat} {v0 : V} {b1 : Pat} {v1 : V} {r : (Pat × Pat)} (S : Sx P0' F0 H0 F H) (f0 : qPat.r K F v0 b0) (f1 : qPat.r K F v1 b1) (hm : m_Both___init__ b0 b1 = some r) (k : ∀ v F' H', Sx P0 F H F' H' → qBoth.r K F' v r → Q v H') : mkK (He.ga K "Both") (fun vs => sp_Both___init__ K (vs ++ [])) E Q [v0, v1] H := by
 refine mk_plain S fun x dx H1 hx c1 w => ?_
 refine ⟨F, x, dx, v0, b0, v1, b1, r, rfl, c1.sub, w, f0, f1, hm, fun F' H' u0 u1 c w' k0 k1 => ⟨rfl, ?_⟩⟩
 obtain ⟨F2, S2, le, h3⟩ := fzI c1 hx c w'
 exact k _ F2 H' S2 ⟨x, dx, u0, u1, rfl, h3, qPat.mono le k0, qPat.mono le k1⟩
def sp_Pattern___and__ (K : PySem.W.Frag) : Sp := fun vs H Q _ => ∃ (F : Hp) (v_self : V) (a_self : Pat) (v_other : V) (a_other : Pat) (r : Pat), vs = [v_self, v_other] ∧ Same F H ∧ qPat.r K F v_self a_self ∧ qPat.r K F v_other a_other ∧ m_Pattern___and__ a_self a_other = some r ∧ ∀ v F' H', Sx P0 F H F' H' → qPat.r K F' v r → Q v H'
theorem sc_Pattern___and__ : FnScope ["self", "other"] ["self", "other"] (defScope s_Pattern___and__) := ⟨rfl, rfl, rfl, by decide +kernel, rfl, by decide +kernel, by decide +kernel⟩
theorem bn_Pattern___and__ (T : Tx P K mg) : Binds K (fdOf K ("Pattern", some "__and__")) ["self", "other"] [] := FunD.bindsN T.F_Pattern___and__ fun _ _ _ _ _ _ us hl => match us, hl with | [_, _], _ => rfl
theorem ok_Pattern___and__ (T : Tx P K mg) : FnOk P w K mg base CX0 7 (He.fAd K ("Pattern", some "__and__")) (fdOf K ("Pattern", some "__and__")) ["self", "other"] (sp_Pattern___and__ K) := by
 refine FunD.ok T.F_Pattern___and__ sc_Pattern___and__ (fun vs H0 Q E h => ?_) (fun cdv A outer s H0 vs Q E hr h => ?_)
 ·
  obtain ⟨_, _, _, _, _, _, rfl, _⟩ := h
  rfl
 ·
  obtain ⟨F0, v_self, a_self, v_other, a_other, r, rfl, hE, f_self, f_other, hm, hQ⟩ := h
  refine ⟨_, PSs.nox ((pss_cons (ps_if (pt_not (pt_val (pe_callB (r := rIsi K) call_isi (by rfl) T.n_isinstance (by decide +kernel) (pa_cons (pv 1) (pa_cons (pe_glob (v := V.ref (He.ga K "Pattern")) (by rfl) T.gc_Pattern rfl) pa_nil))))) pss_dead pss_nil) (pss_one (ps_ret (pe_make T.mk_Both (ok_Both___init__ T) (hr.mono (by decide)) (by rfl) T.gc_Both (bn_Both___init__ T) .nil pass0 (pa_cons (pv 0) (pa_cons (pv 1) pa_nil))))))), ?_⟩
  have S : Sx P0 F0 H0 F0 H0 := Sx.refl0 hE
  unfold m_Pattern___and__ at hm
  obtain ⟨t1, e2, hm⟩ := bd_some hm
  refine rd_seq <| rd_ifS <| rd_not <| rd_tB <| rd_cb <| rd_cons <| rd_v rfl <| rd_cons <| rd_c <| rd_nil ?_
  refine rd_isPat T.pf S f_other ?_
  refine rd_b <| if_ff <| rd_next <| rd_ret <| rd_make <| rd_cons <| rd_v rfl <| rd_cons <| rd_v rfl <| rd_nil ?_
  refine new_Both S f_self f_other e2 (fun v3 F4 H5 c6 f7 => ?_)
  have S8 := S.call0 c6
  obtain ⟨f_self, f_other⟩ := up2 f_self f_other c6
  have f9 : qPat.r K F4 v3 (Pat.both (t1).1 (t1).2) := (show qPat.r K F4 v3 _ from f7)
  cases hm
  exact hQ _ _ _ S8 f9
def sp_is_line (K : PySem.W.Frag) : Sp := fun vs H Q _ => ∃ (F : Hp) (v_thing : V) (a_thing : Th) (r : Bool), vs = [v_thing] ∧ Same F H ∧ qTh.r K F v_thing a_thing ∧ m_is_line a_thing = some r ∧ ∀ v F' H', Sx P0 F H F' H' → qB.r K F' v r → Q v H'
theorem sc_is_line : FnScope ["thing", "sign"] ["thing"] (defScope s_is_line) := ⟨rfl, rfl, rfl, by decide +kernel, rfl, by decide +kernel, by decide +kernel⟩
theorem bn_is_line (T : Tx P K mg) : Binds K (fdOf K ("is_line", none)) ["thing"] [] := FunD.bindsN T.F_is_line fun _ _ _ _ _ _ us hl => match us, hl with | [_], _ => rfl
theorem ok_is_line (T : Tx P K mg) : FnOk P w K mg base CX0 1 (He.ga K "is_line") (fdOf K ("is_line", none)) ["thing"] (sp_is_line K) := by
 refine FunD.ok T.F_is_line sc_is_line (fun vs H0 Q E h => ?_) (fun cdv A outer s H0 vs Q E hr h => ?_)
 ·
  obtain ⟨_, _, _, _, rfl, _⟩ := h
  rfl
 ·
  obtain ⟨F0, v_thing, a_thing, r, rfl, hE, f_thing, hm, hQ⟩ := h
  refine ⟨_, PSs.nox ((pss_cons (ps_if (PW.pt (pw_or (pt_not (pt_val (pe_callB (r := rIsi K) call_isi (by rfl) T.n_isinstance (by decide +kernel) (pa_cons (pv 0) (pa_cons (pe_bltn (v := V.ty "str") (by rfl) T.n_str (by decide +kernel) rfl) pa_nil))))) (pw_or1 (pt_cmpR op_eqS (pv 0) pe_str (nomark _))))) (pss_one (ps_ret pe_bl)) pss_nil) (pss_cons (ps_for PassesOwn.never rfl (pi_str (pv 0)) (pg_name (i := 1) sc_is_line.nd rfl (dk rfl)) (pss_one (ps_if (pt_cmpR op_niS (pv 1) (pe_glob (v := V.str " #-.0123456789:>ABCDEFGHIJKLMNOPQRSTUVWXYZabcdefghijklmnopqrstuvwxyz") (by rfl) (T.k_SIGNS.choose_spec) ⟨_, rfl⟩) rfl) (pss_one (ps_ret pe_bl)) pss_nil))) (pss_one (ps_ret pe_bl))))), ?_⟩
  have S : Sx P0 F0 H0 F0 H0 := Sx.refl0 hE
  unfold m_is_line at hm
  obtain ⟨t4, e5, hm⟩ := bd_some hm
  refine rd_seq <| rd_ifS <| rd_or <| rd_not <| rd_tB <| rd_cb <| rd_cons <| rd_v rfl <| rd_cons <| rd_c <| rd_nil ?_
  refine rd_isiTh (n := "str") (tx_th S f_thing) (by decide +kernel) ?_
  refine rd_b ?_
  refine or_j (fun c H' => c = t4 ∧ ∃ F', Sx P0 F0 H0 F' H') ?_ ?_ ?_
  ·
   intro b6 Q7 q8
   have e5 := if_f e5 b6
   have S9 := Sx.refl0 S.sub
   obtain ⟨t10, e11, e5⟩ := bd_some e5
   have e12 := thS_fact f_thing e11
   cases e12
   cases e5
   refine rd_test <| rd_op <| rd_v rfl <| rd_c <| rd_S0 <| rd_b ?_
   exact q8 _ _ ⟨rfl, F0, S9⟩
  ·
   intro b6
   have e5 := if_t e5 b6
   cases e5
   have S13 := Sx.refl0 S.sub
   exact ⟨rfl, F0, S13⟩
  rintro b17 H15 ⟨rfl, F14, c16⟩
  have S18 := S.call0 c16
  have f_thing := f_thing.up c16
  refine if_b hm (fun b19 hm => ?_) (fun b19 hm => ?_)
  ·
   cases hm
   refine rd_ret <| rd_c ?_
   exact hQ _ _ _ S18 rfl
  ·
   obtain ⟨t20, e21, hm⟩ := bd_some hm
   have e22 := thS_fact f_thing e21
   cases e22
   refine rd_next <| rd_seq <| rd_for ?_
   refine rd_iS ?_
   refine rd_v rfl ?_
   refine rd_wS ?_
   obtain ⟨t23, e24, hm⟩ := bd_some hm
   refine rd_forC feedsS (typedS (K := K) (F := F14)) e24 (fun (s25 : Unit) σ H => ∃ (F : Hp) (o1 : Option V), σ = [some (V.str (t20)), o1] ∧ Sx P0 F14 H15 F H) ?_ ?_ ?_ ?_
   ·
    intro _ _ _ _; trivial
   ·
    have S27 := Sx.refl0 S18.sub
    exact ⟨F14, _, rfl, S27⟩
   ·
    rintro x28 v29 s30 c34 σ31 H32 f33 ⟨F35, o37, rfl, S36⟩ hm40 hbk38 hrt39
    unfold m_is_line_b1 at hm40
    cases (show v29 = (V.str (x28)) from f33)
    refine rd_gn <| rd_ifS <| rd_test <| rd_op <| rd_v rfl <| rd_c ?_
    refine rd_niSS ?_
    refine rd_b ?_
    refine if_b hm40 (fun b41 hm40 => ?_) (fun b41 hm40 => ?_)
    ·
     cases hm40
     have e42 := hrt39 _ rfl
     subst e42
     have hm := aft_rt hm
     have S43 := S18.call0 S36
     cases hm
     refine rd_ret <| rd_c ?_
     exact hQ _ _ _ S43 rfl
    ·
     cases hm40
     refine rd_next ?_
     exact ⟨_, rfl, ⟨F35, _, rfl, S36⟩⟩
   ·
    rintro s46 σ44 H45 e47 ⟨F48, o50, rfl, S49⟩
    subst e47
    have hm := aft_nx hm
    have S51 := S18.call0 S49
    cases hm
    refine rd_ret <| rd_c ?_
    exact hQ _ _ _ S51 rfl
def sp_is_allowed (K : PySem.W.Frag) : Sp := fun vs H Q _ => ∃ (F : Hp) (v_parts : V) (a_parts : (List Str)) (a_at : Int) (r : Bool), vs = [v_parts, (V.int (a_at))] ∧ Same F H ∧ (qT qS).r K F v_parts a_parts ∧ m_is_allowed a_parts a_at = some r ∧ ∀ v F' H', Sx P0 F H F' H' → qB.r K F' v r → Q v H'
theorem sc_is_allowed : FnScope ["parts", "at", "part"] ["parts", "at"] (defScope s_is_allowed) := ⟨rfl, rfl, rfl, by decide +kernel, rfl, by decide +kernel, by decide +kernel⟩
theorem bn_is_allowed (T : Tx P K mg) : Binds K (fdOf K ("is_allowed_patterns", none)) ["parts", "at"] [] := FunD.bindsN T.F_is_allowed fun _ _ _ _ _ _ us hl => match us, hl with | [_, _], _ => rfl
theorem ok_is_allowed (T : Tx P K mg) : FnOk P w K mg base CX0 2 (He.ga K "is_allowed_patterns") (fdOf K ("is_allowed_patterns", none)) ["parts", "at"] (sp_is_allowed K) := by
 refine FunD.ok T.F_is_allowed sc_is_allowed (fun vs H0 Q E h => ?_) (fun cdv A outer s H0 vs Q E hr h => ?_)
 ·
  obtain ⟨_, _, _, _, _, rfl, _⟩ := h
  rfl
 ·
  obtain ⟨F0, v_parts, a_parts, a_at, r, rfl, hE, f_parts, hm, hQ⟩ := h
  refine ⟨_, PSs.nox ((pss_cons (ps_set (i := 2) sc_is_allowed.nd rfl (dk rfl) (pe_ix (r := rIxT K) ix_tup (pv 0) (pv 1) (fun _ _ => rfl))) (pss_cons (ps_if (PW.pt (pw_or (pt_cmpR op_ge (pv 1) (pe_glob (v := V.int 4) (by rfl) (T.k_MOST_PARTS.choose_spec) ⟨_, rfl⟩) (nomark _)) (pw_or1 (pt_not (pt_val (pe_callB (r := rIsi K) call_isi (by rfl) T.n_isinstance (by decide +kernel) (pa_cons (pv 2) (pa_cons (pe_bltn (v := V.ty "str") (by rfl) T.n_str (by decide +kernel) rfl) pa_nil)))))))) (pss_one (ps_ret pe_bl)) pss_nil) (pss_cons (ps_if (pt_cmpR op_eqS (pv 2) (pe_glob (v := V.str "<any>") (by rfl) (T.k_ANY_CELL.choose_spec) ⟨_, rfl⟩) (nomark _)) (pss_one (ps_ret (pe_cmpR (r := rIn K true) op_notIn_seq (pe_glob (v := V.str "<any>") (by rfl) (T.k_ANY_CELL.choose_spec) ⟨_, rfl⟩) (pe_slice (r := rSlA K) sl_tupA (pv 0) po_none (po_some (pv 1))) rfl))) pss_nil) (pss_cons (ps_if (pt_cmpR (r := rIn K false) op_in_seq (pv 2) (pe_glob (v := V.ref (He.ga K "FREE_CELLS")) (by rfl) T.g_FREE_CELLS rfl) rfl) (pss_one (ps_ret pe_bl)) pss_nil) (pss_cons (ps_if (PW.pt (pw_and (pt_cmpR op_gt (pv 1) pe_int (nomark _)) (pw_and1 (pt_cmpR (r := rIn K true) op_notIn_seq (pe_ix (r := rIxT K) ix_tup (pv 0) (pe_op op_sub (pv 1) pe_int) (fun _ _ => rfl)) (pe_glob (v := V.ref (He.ga K "FREE_CELLS")) (by rfl) T.g_FREE_CELLS rfl) rfl)))) (pss_one (ps_ret pe_bl)) pss_nil) (pss_one (ps_ret (pe_and (pe_call (ok_is_line T) (hr.mono (by decide)) (by rfl) T.g_is_line T.F_is_line.kp (bn_is_line T) .nil pass0 (pa_cons (pv 2) pa_nil)) (pe_one (pe_cmpR op_le (pe_callB cr_lenS (by rfl) T.n_len (by decide +kernel) (pa_cons (pv 2) pa_nil)) (pe_glob (v := V.int 4) (by rfl) (T.k_MOST_SIGNS.choose_spec) ⟨_, rfl⟩) (nomark _)))))))))))), ?_⟩
  have S : Sx P0 F0 H0 F0 H0 := Sx.refl0 hE
  unfold m_is_allowed at hm
  obtain ⟨t1, e2, hm⟩ := bd_some hm
  refine rd_seq <| rd_asg <| rd_op <| rd_v rfl <| rd_v rfl ?_
  refine rd_ixT (S.t f_parts) e2 (fun u3 f4 => ?_)
  cases (show u3 = (V.str (t1)) from f4)
  refine rd_gn <| rd_seq <| rd_ifS <| rd_or <| rd_test <| rd_op <| rd_v rfl <| rd_c <| rd_I0 <| rd_b ?_
  refine or_p (by intro _ Q' q; refine rd_not ?_; refine rd_tB ?_; refine rd_cb ?_; refine rd_cons ?_; refine rd_v rfl ?_; refine rd_cons ?_; refine rd_c ?_; refine rd_nil ?_; refine rd_isi (b := true) tx_str (by decide +kernel) ?_; refine rd_b ?_; exact q) ?_
  refine if_b hm (fun b5 hm => ?_) (fun b5 hm => ?_)
  ·
   cases hm
   refine rd_ret <| rd_c ?_
   exact hQ _ _ _ S rfl
  ·
   refine rd_next <| rd_seq <| rd_ifS <| rd_test <| rd_op <| rd_v rfl <| rd_c <| rd_S0 <| rd_b ?_
   refine if_b hm (fun b6 hm => ?_) (fun b6 hm => ?_)
   ·
    refine rd_ret <| rd_op <| rd_c ?_
    refine rd_sl ?_
    refine rd_v rfl ?_
    refine rd_np ?_
    refine rd_pt ?_
    refine rd_v rfl ?_
    refine rd_i ?_
    refine rd_slA S f_parts (fun v7 F8 H9 c10 f11 => ?_)
    have S12 := S.call0 c10
    have f_parts := f_parts.up c10
    cases hm
    refine rd_niS (S12.t f11).q ?_
    exact hQ _ _ _ S12 rfl
   ·
    have f13 : (qT qS).r K F0 (.ref (He.ga K "FREE_CELLS")) (["<digits>", "<word>", "<any>"] : List Str) := T.q_FREE_CELLS _
    refine rd_next <| rd_seq <| rd_ifS <| rd_test <| rd_op <| rd_v rfl <| rd_c ?_
    refine rd_inS (S.t f13).q ?_
    refine rd_b ?_
    refine if_b hm (fun b14 hm => ?_) (fun b14 hm => ?_)
    ·
     cases hm
     refine rd_ret <| rd_c ?_
     exact hQ _ _ _ S rfl
    ·
     obtain ⟨t20, e21, hm⟩ := bd_some hm
     refine rd_next <| rd_seq <| rd_ifS <| rd_and <| rd_test <| rd_op <| rd_v rfl <| rd_c <| rd_I0 <| rd_b ?_
     refine and_j (fun c H' => c = t20 ∧ ∃ F', Sx P0 F0 H0 F' H') ?_ ?_ ?_
     ·
      intro b22 Q23 q24
      have e21 := if_t e21 b22
      have S25 := Sx.refl0 S.sub
      obtain ⟨t26, e27, e21⟩ := bd_some e21
      refine rd_test <| rd_op <| rd_op <| rd_v rfl <| rd_op <| rd_v rfl <| rd_c <| rd_I0 ?_
      refine rd_ixT (S25.t f_parts) e27 (fun u28 f29 => ?_)
      cases (show u28 = (V.str (t26)) from f29)
      have f30 : (qT qS).r K F0 (.ref (He.ga K "FREE_CELLS")) (["<digits>", "<word>", "<any>"] : List Str) := T.q_FREE_CELLS _
      cases e21
      refine rd_c ?_
      refine rd_niS (S25.t f30).q ?_
      refine rd_b ?_
      exact q24 _ _ ⟨rfl, F0, S25⟩
     ·
      intro b22
      have e21 := if_f e21 b22
      cases e21
      have S31 := Sx.refl0 S.sub
      exact ⟨rfl, F0, S31⟩
     rintro b35 H33 ⟨rfl, F32, c34⟩
     have S36 := S.call0 c34
     have f_parts := f_parts.up c34
     refine if_b hm (fun b37 hm => ?_) (fun b37 hm => ?_)
     ·
      cases hm
      refine rd_ret <| rd_c ?_
      exact hQ _ _ _ S36 rfl
     ·
      have f38 : qTh.r K F32 (V.str (t1)) (Th.d (PyData.str (t1))) := (show qTh.r K F32 _ (Th.d (PyData.str (t1))) from Dp.str _)
      obtain ⟨t39, e40, hm⟩ := bd_some hm
      refine rd_next <| rd_ret <| rd_andV <| rd_call <| rd_cons <| rd_v rfl <| rd_nil ?_
      refine ⟨F32, _, _, t39, rfl, S36.sub, f38, e40, fun v44 F41 H42 c43 f45 => ?_⟩
      have S46 := S36.call0 c43
      have f_parts := f_parts.up c43
      cases (show v44 = (V.bl (t39)) from f45)
      obtain ⟨t48, e49, hm⟩ := bd_some hm
      refine rd_b ?_
      refine andV_j (fun c H' => c = V.bl t48 ∧ ∃ F', Sx P0 F41 H42 F' H') ?_ ?_ ?_
      ·
       intro b50 Q51 q52
       have e49 := if_t e49 b50
       have S53 := Sx.refl0 S46.sub
       obtain ⟨g54, e49⟩ := gd_some e49
       cases e49
       refine rd_op <| rd_cb <| rd_cons <| rd_v rfl <| rd_nil ?_
       refine rd_lenS g54 ?_
       refine rd_c <| rd_I0 ?_
       exact q52 _ _ ⟨rfl, F41, S53⟩
      ·
       intro b50
       have e49 := if_f e49 b50
       cases e49
       have S55 := Sx.refl0 S46.sub
       exact ⟨rfl, F41, S55⟩
      rintro b59 H57 ⟨rfl, F56, c58⟩
      have S60 := S46.call0 c58
      have f_parts := f_parts.up c58
      cases hm
      exact hQ _ _ _ S60 rfl
def sp_Form___init__ (K : PySem.W.Frag) : Sp := fun vs H Q _ => ∃ (F : Hp) (p_self : Addr) (dx : Addr) (v_parts : V) (a_parts : (List Str)) (r : (List Str)), vs = [.ref p_self, v_parts] ∧ Same F H ∧ Ow (fun a => a = p_self) H F H p_self (.ins (He.ga K "Form") dx []) ∧ (qT qS).r K F v_parts a_parts ∧ m_Form___init__ a_parts = some r ∧ ∀ (F' H' : Hp) (u0 : V), Sx (fun a => a = p_self) F H F' H' → Ow (fun a => a = p_self) H F' H' p_self (.ins (He.ga K "Form") dx [("pieces", u0)]) → (qT qS).r K F' u0 r → Q .non H'
theorem sc_Form___init__ : FnScope ["self", "parts", "at"] ["self", "parts"] (defScope s_Form___init__) := ⟨rfl, rfl, rfl, by decide +kernel, rfl, by decide +kernel, by decide +kernel⟩
theorem ok_Form___init__ (T : Tx P K mg) : FnR P w K mg base CX0 3 (He.fAd K ("Form", some "__init__")) (starSp 1 (sp_Form___init__ K)) := by
 obtain ⟨oc, od, dV, kV, doc, pm, an, cdv, ct, osl, efd, lk, hcd, hD, _⟩ := T.F_Form___init__.ex
 rw [efd] at lk
 obtain ⟨_, rfl⟩ | ⟨nD, _⟩ := hD
 rotate_left
 ·
  exact absurd rfl nD
 refine StX.fn_star (ps := ["self"]) (pv := "parts") lk hcd sc_Form___init__ StX.cxUp_none (fun us rest hl => StX.bind_star1 (p1 := "self") (pv := "parts") (B := fun us => bindArgs (PySem.W.fnOf _ _ _ _ _ .none kV doc pm an cdv ct) ⟨us, []⟩) (fun a => by rfl) (fun a r rs => by rfl) us rest hl) (fun A outer s H0 vs Q E hr h => ?_)
 ·
  obtain ⟨F0, p_self, dx, v_parts, a_parts, r, rfl, hE, w_self, f_parts, hm, hQ⟩ := h
  refine ⟨_, PSs.nox ((pss_cons (ps_if (pt_cmpR op_eqI (pe_callB (r := rLenQ K) cr_lenQ (by rfl) T.n_len (by decide +kernel) (pa_cons (pv 1) pa_nil)) pe_int (nomark _)) (pss_one ps_dead) pss_nil) (pss_cons (ps_for PassesOwn.never rfl (pi_range1 (by rfl) T.n_range (pa_cons (pe_callB (r := rLenQ K) cr_lenQ (by rfl) T.n_len (by decide +kernel) (pa_cons (pv 1) pa_nil)) pa_nil)) (pg_name (i := 2) sc_Form___init__.nd rfl (dk rfl)) (pss_one (ps_if (pt_not (pt_val (pe_call (ok_is_allowed T) (hr.mono (by decide)) (by rfl) T.g_is_allowed T.F_is_allowed.kp (bn_is_allowed T) .nil pass0 (pa_cons (pv 1) (pa_cons (pv 2) pa_nil))))) (pss_one ps_dead) pss_nil))) (pss_one (ps_fld (pv 0) (pv 1) rfl))))), ?_⟩
  have S : Sx (fun a => a = p_self) F0 H0 F0 H0 := Sx.refl hE (live1 w_self)
  unfold m_Form___init__ at hm
  refine rd_seq <| rd_ifS <| rd_test <| rd_op <| rd_cb <| rd_cons <| rd_v rfl <| rd_nil ?_
  refine rd_lenQ (S.t f_parts).q ?_
  refine rd_c <| rd_I0 <| rd_b ?_
  refine if_b hm (fun b1 hm => ?_) (fun b1 hm => ?_)
  ·
   cases hm
  ·
   obtain ⟨g2, hm⟩ := gd_some hm
   refine rd_next <| rd_seq <| rd_for ?_
   refine rd_iR1 ?_
   refine rd_cons <| rd_cb <| rd_cons <| rd_v rfl <| rd_nil ?_
   refine rd_lenQ (S.t f_parts).q ?_
   refine rd_nil ?_
   refine rd_r1 g2 ?_
   obtain ⟨t3, e4, hm⟩ := bd_some hm
   refine rd_forS feedsRg (typedR (K := K) (F := F0)) e4 (fun (s5 : Unit) σ H => ∃ (F : Hp) (o2 : Option V), σ = [some (V.ref p_self), some v_parts, o2] ∧ Sx P0 F0 H0 F H) ?_ ?_ ?_ ?_
   ·
    intro _ _ _ _; trivial
   ·
    have S7 := Sx.refl0 S.sub
    exact ⟨F0, _, rfl, S7⟩
   ·
    rintro x8 v9 s10 c14 σ11 H12 f13 ⟨F15, o17, rfl, S16⟩ hm20
    have f_parts := f_parts.up S16
    have w_self := w_self.call0 S16
    unfold m_Form___init___b1 at hm20
    cases (show v9 = (V.int (x8)) from f13)
    obtain ⟨t21, e22, hm20⟩ := bd_some hm20
    refine rd_gn <| rd_ifS <| rd_not <| rd_tB <| rd_call <| rd_cons <| rd_v rfl <| rd_cons <| rd_v rfl <| rd_nil ?_
    refine ⟨F15, _, _, _, t21, rfl, S16.sub, f_parts, e22, fun v26 F23 H24 c25 f27 => ?_⟩
    have S28 := S16.call0 c25
    have f_parts := f_parts.up c25
    have w_self := w_self.call0 c25
    cases (show v26 = (V.bl (t21)) from f27)
    refine rd_b ?_
    refine if_b hm20 (fun b29 hm20 => ?_) (fun b29 hm20 => ?_)
    ·
     cases hm20
    ·
     cases hm20
     refine rd_next ?_
     exact ⟨F23, _, rfl, S28⟩
   ·
    rintro σ30 H31 ⟨F32, o34, rfl, S33⟩
    have S35 := S.call0 S33
    have f_parts := f_parts.up S33
    have w_self := w_self.call0 S33
    refine rd_sfld ?_
    refine rd_v rfl <| rd_v rfl ?_
    refine fset (fs' := [("pieces", v_parts)]) S35 w_self T.c_Form T.na_Form_pieces (by rfl) (by rfl) (fun H36 c37 w38 => ?_)
    have f39 : (qT qS).r K F32 v_parts a_parts := f_parts
    have S40 := S35.call1 c37 w_self
    obtain ⟨f_parts, f39⟩ := up2 f_parts f39 c37
    cases hm
    exact hQ _ _ v_parts S40 w38 f39
theorem new_Form {P0' : Addr → Prop} {F0 H0 F H : Hp} {Q : VK} {E : XK} {vs : List V} {xs : List Str} {r : (List Str)} (S : Sx P0' F0 H0 F H) (row : Row qS K F vs xs) (hl : Nat.ble vs.length 900 = true) (hm : m_Form___init__ xs = some r) (k : ∀ v F' H', Sx P0 F H F' H' → qForm.r K F' v r → Q v H') : mkK (He.ga K "Form") (starSp 1 (sp_Form___init__ K)) E Q vs H := by
 refine mk_star S row hl fun x dx v F1 H1 hx c1 w rv => ?_
 refine ⟨F1, x, dx, v, xs, r, rfl, c1.sub, w, rv, hm, fun F' H' u0 c w' k0 => ⟨rfl, ?_⟩⟩
 obtain ⟨F2, S2, le, h3⟩ := fzI c1 hx c w'
 exact k _ F2 H' S2 ⟨x, dx, u0, rfl, h3, (qT qS).mono le k0⟩
def sp_law_form (K : PySem.W.Frag) : Sp := fun vs H Q _ => ∃ (F : Hp) (v_parts_here : V) (a_parts_here : (List Str)) (r : (List Str)), vs = [v_parts_here] ∧ Same F H ∧ (qL qS).r K F v_parts_here a_parts_here ∧ m_law_form a_parts_here = some r ∧ ∀ v F' H', Sx P0 F H F' H' → qForm.r K F' v r → Q v H'
theorem sc_law_form : FnScope ["_law_parts_here"] ["_law_parts_here"] (defScope s_law_form) := ⟨rfl, rfl, rfl, by decide +kernel, rfl, by decide +kernel, by decide +kernel⟩
theorem bn_law_form (T : Tx P K mg) : Binds K (fdOf K ("_law_form", none)) ["_law_parts_here"] [] := FunD.bindsN T.F_law_form fun _ _ _ _ _ _ us hl => match us, hl with | [_], _ => rfl
theorem ok_law_form (T : Tx P K mg) : FnOk P w K mg base CX0 5 (He.ga K "_law_form") (fdOf K ("_law_form", none)) ["_law_parts_here"] (sp_law_form K) := by
 refine FunD.ok T.F_law_form sc_law_form (fun vs H0 Q E h => ?_) (fun cdv A outer s H0 vs Q E hr h => ?_)
 ·
  obtain ⟨_, _, _, _, rfl, _⟩ := h
  rfl
 ·
  obtain ⟨F0, v_parts_here, a_parts_here, r, rfl, hE, f_parts_here, hm, hQ⟩ := h
  refine ⟨_, PSs.nox ((pss_cons (ps_if (pt_cmpR op_eqI (pe_callB (r := rLenQ K) cr_lenQ (by rfl) T.n_len (by decide +kernel) (pa_cons (pv 0) pa_nil)) pe_int (nomark _)) (pss_one (ps_ret (StX.pe_makeR T.mk_Form (ok_Form___init__ T) (hr.mono (by decide)) (by rfl) T.gc_Form pass0 (pa_cons (pe_ix (r := rIxL K) ix_list (pv 0) pe_int (fun _ _ => rfl)) pa_nil)))) pss_nil) (pss_cons (ps_if (pt_cmpR op_eqI (pe_callB (r := rLenQ K) cr_lenQ (by rfl) T.n_len (by decide +kernel) (pa_cons (pv 0) pa_nil)) pe_int (nomark _)) (pss_one (ps_ret (StX.pe_makeR T.mk_Form (ok_Form___init__ T) (hr.mono (by decide)) (by rfl) T.gc_Form pass0 (pa_cons (pe_ix (r := rIxL K) ix_list (pv 0) pe_int (fun _ _ => rfl)) (pa_cons (pe_ix (r := rIxL K) ix_list (pv 0) pe_int (fun _ _ => rfl)) pa_nil))))) pss_nil) (pss_one (ps_ret (StX.pe_makeR T.mk_Form (ok_Form___init__ T) (hr.mono (by decide)) (by rfl) T.gc_Form pass0 (pa_cons (pe_ix (r := rIxL K) ix_list (pv 0) pe_int (fun _ _ => rfl)) (pa_cons (pe_ix (r := rIxL K) ix_list (pv 0) pe_int (fun _ _ => rfl)) (pa_cons (pe_ix (r := rIxL K) ix_list (pv 0) pe_int (fun _ _ => rfl)) pa_nil))))))))), ?_⟩
  have S : Sx P0 F0 H0 F0 H0 := Sx.refl0 hE
  unfold m_law_form at hm
  refine rd_seq <| rd_ifS <| rd_test <| rd_op <| rd_cb <| rd_cons <| rd_v rfl <| rd_nil ?_
  refine rd_lenQ (S.l f_parts_here).r.q ?_
  refine rd_c <| rd_I0 <| rd_b ?_
  refine if_b hm (fun b1 hm => ?_) (fun b1 hm => ?_)
  ·
   obtain ⟨t2, e3, hm⟩ := bd_some hm
   refine rd_ret ?_
   refine rd_makeR ?_
   refine rd_cons <| rd_op <| rd_v rfl <| rd_c ?_
   refine rd_ixL (S.l f_parts_here).r e3 (fun u4 f5 => ?_)
   cases (show u4 = (V.str (t2)) from f5)
   obtain ⟨t6, e7, hm⟩ := bd_some hm
   refine rd_nil ?_
   refine new_Form S (.cons rfl .nil) rfl e7 (fun v8 F9 H10 c11 f12 => ?_)
   have S13 := S.call0 c11
   have f_parts_here := f_parts_here.up c11
   cases hm
   exact hQ _ _ _ S13 f12
  ·
   refine rd_next <| rd_seq <| rd_ifS <| rd_test <| rd_op <| rd_cb <| rd_cons <| rd_v rfl <| rd_nil ?_
   refine rd_lenQ (S.l f_parts_here).r.q ?_
   refine rd_c <| rd_I0 <| rd_b ?_
   refine if_b hm (fun b14 hm => ?_) (fun b14 hm => ?_)
   ·
    obtain ⟨t15, e16, hm⟩ := bd_some hm
    refine rd_ret ?_
    refine rd_makeR ?_
    refine rd_cons <| rd_op <| rd_v rfl <| rd_c ?_
    refine rd_ixL (S.l f_parts_here).r e16 (fun u17 f18 => ?_)
    cases (show u17 = (V.str (t15)) from f18)
    obtain ⟨t19, e20, hm⟩ := bd_some hm
    refine rd_cons <| rd_op <| rd_v rfl <| rd_c ?_
    refine rd_ixL (S.l f_parts_here).r e20 (fun u21 f22 => ?_)
    cases (show u21 = (V.str (t19)) from f22)
    obtain ⟨t23, e24, hm⟩ := bd_some hm
    refine rd_nil ?_
    refine new_Form S (.cons rfl (.cons rfl .nil)) rfl e24 (fun v25 F26 H27 c28 f29 => ?_)
    have S30 := S.call0 c28
    have f_parts_here := f_parts_here.up c28
    cases hm
    exact hQ _ _ _ S30 f29
   ·
    obtain ⟨t31, e32, hm⟩ := bd_some hm
    refine rd_next <| rd_ret ?_
    refine rd_makeR ?_
    refine rd_cons <| rd_op <| rd_v rfl <| rd_c ?_
    refine rd_ixL (S.l f_parts_here).r e32 (fun u33 f34 => ?_)
    cases (show u33 = (V.str (t31)) from f34)
    obtain ⟨t35, e36, hm⟩ := bd_some hm
    refine rd_cons <| rd_op <| rd_v rfl <| rd_c ?_
    refine rd_ixL (S.l f_parts_here).r e36 (fun u37 f38 => ?_)
    cases (show u37 = (V.str (t35)) from f38)
    obtain ⟨t39, e40, hm⟩ := bd_some hm
    refine rd_cons <| rd_op <| rd_v rfl <| rd_c ?_
    refine rd_ixL (S.l f_parts_here).r e40 (fun u41 f42 => ?_)
    cases (show u41 = (V.str (t39)) from f42)
    obtain ⟨t43, e44, hm⟩ := bd_some hm
    refine rd_nil ?_
    refine new_Form S (.cons rfl (.cons rfl (.cons rfl .nil))) rfl e44 (fun v45 F46 H47 c48 f49 => ?_)
    have S50 := S.call0 c48
    have f_parts_here := f_parts_here.up c48
    cases hm
    exact hQ _ _ _ S50 f49
def sp_law_built (K : PySem.W.Frag) : Sp := fun vs H Q _ => ∃ (F : Hp) (v_tree_here : V) (a_tree_here : τ4ₓ) (r : Pat), vs = [v_tree_here] ∧ Same F H ∧ τ0ₓ.r K F v_tree_here a_tree_here ∧ m_law_built a_tree_here = some r ∧ ∀ v F' H', Sx P0 F H F' H' → qPat.r K F' v r → Q v H'
theorem sc_law_built : FnScope ["_law_tree_here"] ["_law_tree_here"] (defScope s_law_built) := ⟨rfl, rfl, rfl, by decide +kernel, rfl, by decide +kernel, by decide +kernel⟩
theorem bn_law_built (T : Tx P K mg) : Binds K (fdOf K ("_law_built", none)) ["_law_tree_here"] [] := FunD.bindsN T.F_law_built fun _ _ _ _ _ _ us hl => match us, hl with | [_], _ => rfl
theorem ok_law_built (T : Tx P K mg) : FnOk P w K mg base CX0 8 (He.ga K "_law_built") (fdOf K ("_law_built", none)) ["_law_tree_here"] (sp_law_built K) := by
 refine FunD.ok T.F_law_built sc_law_built (fun vs H0 Q E h => ?_) (fun cdv A outer s H0 vs Q E hr h => ?_)
 ·
  obtain ⟨_, _, _, _, rfl, _⟩ := h
  rfl
 ·
  obtain ⟨F0, v_tree_here, a_tree_here, r, rfl, hE, f_tree_here, hm, hQ⟩ := h
  refine ⟨_, PSs.nox ((pss_cons (ps_if (pt_cmpR op_eqS (pe_ix (r := rIxL K) ix_list (pv 0) pe_int (fun _ _ => rfl)) pe_str (nomark _)) (pss_one (ps_ret (pe_call (ok_law_form T) (hr.mono (by decide)) (by rfl) T.g_law_form T.F_law_form.kp (bn_law_form T) .nil pass0 (pa_cons (pe_ix (r := rIxL K) ix_list (pv 0) pe_int (fun _ _ => rfl)) pa_nil)))) pss_nil) (pss_cons (ps_if (pt_cmpR op_eqS (pe_ix (r := rIxL K) ix_list (pv 0) pe_int (fun _ _ => rfl)) pe_str (nomark _)) (pss_one (ps_ret (pe_op (r := rBinO K "and" _ (sp_Pattern___and__ K) _) (op_binO (op := .BitAnd) (ok_Pattern___and__ T) (hr.mono (by decide)) (bn_Pattern___and__ T) pass0) (pe_call (ok_law_form T) (hr.mono (by decide)) (by rfl) T.g_law_form T.F_law_form.kp (bn_law_form T) .nil pass0 (pa_cons (pe_ix (r := rIxL K) ix_list (pv 0) pe_int (fun _ _ => rfl)) pa_nil)) (pe_call (ok_law_form T) (hr.mono (by decide)) (by rfl) T.g_law_form T.F_law_form.kp (bn_law_form T) .nil pass0 (pa_cons (pe_ix (r := rIxL K) ix_list (pv 0) pe_int (fun _ _ => rfl)) pa_nil))))) pss_nil) (pss_one (ps_ret (pe_op (r := rBinO K "or" _ (sp_Pattern___or__ K) _) (op_binO (op := .BitOr) (ok_Pattern___or__ T) (hr.mono (by decide)) (bn_Pattern___or__ T) pass0) (pe_call (ok_law_form T) (hr.mono (by decide)) (by rfl) T.g_law_form T.F_law_form.kp (bn_law_form T) .nil pass0 (pa_cons (pe_ix (r := rIxL K) ix_list (pv 0) pe_int (fun _ _ => rfl)) pa_nil)) (pe_call (ok_law_form T) (hr.mono (by decide)) (by rfl) T.g_law_form T.F_law_form.kp (bn_law_form T) .nil pass0 (pa_cons (pe_ix (r := rIxL K) ix_list (pv 0) pe_int (fun _ _ => rfl)) pa_nil)))))))), ?_⟩
  have S : Sx P0 F0 H0 F0 H0 := Sx.refl0 hE
  unfold m_law_built at hm
  refine rd_seq <| rd_ifS <| rd_test <| rd_op <| rd_op <| rd_v rfl <| rd_c ?_
  refine rd_xLr (i := 0) S f_tree_here ra0 (fun _ _ _ _ r => by obtain ⟨u0, s_u0, rfl, _, u1, s_u1, rfl, _, u2, rfl, _⟩ := r; exact Nat.le_of_ble_eq_true rfl) (fun u1 f2 => ?_)
  cases (show u1 = (V.str ((a_tree_here).1)) from f2)
  refine rd_c <| rd_S0 <| rd_b ?_
  refine if_b hm (fun b3 hm => ?_) (fun b3 hm => ?_)
  ·
   refine rd_ret <| rd_call <| rd_cons <| rd_op <| rd_v rfl <| rd_c ?_
   refine rd_xLr (i := 1) S f_tree_here (raS ra0) (fun _ _ _ _ r => by obtain ⟨u0, s_u0, rfl, _, u1, s_u1, rfl, _, u2, rfl, _⟩ := r; exact Nat.le_of_ble_eq_true rfl) (fun u4 f5 => ?_)
   have f5 : (qL qS).r K F0 u4 (a_tree_here).2.1 := f5
   obtain ⟨t6, e7, hm⟩ := bd_some hm
   refine rd_nil ?_
   refine ⟨F0, _, _, t6, rfl, S.sub, f5, e7, fun v11 F8 H9 c10 f12 => ?_⟩
   have S13 := S.call0 c10
   have f_tree_here := f_tree_here.up c10
   have f14 : qPat.r K F8 v11 (Pat.form t6) := (show qPat.r K F8 v11 _ from f12)
   cases hm
   exact hQ _ _ _ S13 f14
  ·
   refine rd_next <| rd_seq <| rd_ifS <| rd_test <| rd_op <| rd_op <| rd_v rfl <| rd_c ?_
   refine rd_xLr (i := 0) S f_tree_here ra0 (fun _ _ _ _ r => by obtain ⟨u0, s_u0, rfl, _, u1, s_u1, rfl, _, u2, rfl, _⟩ := r; exact Nat.le_of_ble_eq_true rfl) (fun u15 f16 => ?_)
   cases (show u15 = (V.str ((a_tree_here).1)) from f16)
   refine rd_c <| rd_S0 <| rd_b ?_
   refine if_b hm (fun b17 hm => ?_) (fun b17 hm => ?_)
   ·
    refine rd_ret <| rd_op <| rd_call <| rd_cons <| rd_op <| rd_v rfl <| rd_c ?_
    refine rd_xLr (i := 1) S f_tree_here (raS ra0) (fun _ _ _ _ r => by obtain ⟨u0, s_u0, rfl, _, u1, s_u1, rfl, _, u2, rfl, _⟩ := r; exact Nat.le_of_ble_eq_true rfl) (fun u18 f19 => ?_)
    have f19 : (qL qS).r K F0 u18 (a_tree_here).2.1 := f19
    obtain ⟨t20, e21, hm⟩ := bd_some hm
    refine rd_nil ?_
    refine ⟨F0, _, _, t20, rfl, S.sub, f19, e21, fun v25 F22 H23 c24 f26 => ?_⟩
    have S27 := S.call0 c24
    have f_tree_here := f_tree_here.up c24
    refine rd_call <| rd_cons <| rd_op <| rd_v rfl <| rd_c ?_
    refine rd_xLr (i := 2) S27 f_tree_here (raS (raS ra1)) (fun _ _ _ _ r => by obtain ⟨u0, s_u0, rfl, _, u1, s_u1, rfl, _, u2, rfl, _⟩ := r; exact Nat.le_of_ble_eq_true rfl) (fun u28 f29 => ?_)
    have f29 : (qL qS).r K F22 u28 (a_tree_here).2.2 := f29
    obtain ⟨t30, e31, hm⟩ := bd_some hm
    refine rd_nil ?_
    refine ⟨F22, _, _, t30, rfl, S27.sub, f29, e31, fun v35 F32 H33 c34 f36 => ?_⟩
    have S37 := S27.call0 c34
    obtain ⟨f_tree_here, f26⟩ := up2 f_tree_here f26 c34
    have f38 : qPat.r K F32 v25 (Pat.form t20) := (show qPat.r K F32 v25 _ from f26)
    have f39 : qPat.r K F32 v35 (Pat.form t30) := (show qPat.r K F32 v35 _ from f36)
    obtain ⟨t40, e41, hm⟩ := bd_some hm
    refine pat_and T.pf S37 f38 f39 ?_
    refine ⟨F32, _, _, _, _, t40, rfl, S37.sub, f38, f39, e41, fun v45 F42 H43 c44 f46 => ?_⟩
    have S47 := S37.call0 c44
    have f_tree_here := f_tree_here.up c44
    cases hm
    exact hQ _ _ _ S47 f46
   ·
    refine rd_next <| rd_ret <| rd_op <| rd_call <| rd_cons <| rd_op <| rd_v rfl <| rd_c ?_
    refine rd_xLr (i := 1) S f_tree_here (raS ra0) (fun _ _ _ _ r => by obtain ⟨u0, s_u0, rfl, _, u1, s_u1, rfl, _, u2, rfl, _⟩ := r; exact Nat.le_of_ble_eq_true rfl) (fun u48 f49 => ?_)
    have f49 : (qL qS).r K F0 u48 (a_tree_here).2.1 := f49
    obtain ⟨t50, e51, hm⟩ := bd_some hm
    refine rd_nil ?_
    refine ⟨F0, _, _, t50, rfl, S.sub, f49, e51, fun v55 F52 H53 c54 f56 => ?_⟩
    have S57 := S.call0 c54
    have f_tree_here := f_tree_here.up c54
    refine rd_call <| rd_cons <| rd_op <| rd_v rfl <| rd_c ?_
    refine rd_xLr (i := 2) S57 f_tree_here (raS (raS ra1)) (fun _ _ _ _ r => by obtain ⟨u0, s_u0, rfl, _, u1, s_u1, rfl, _, u2, rfl, _⟩ := r; exact Nat.le_of_ble_eq_true rfl) (fun u58 f59 => ?_)
    have f59 : (qL qS).r K F52 u58 (a_tree_here).2.2 := f59
    obtain ⟨t60, e61, hm⟩ := bd_some hm
    refine rd_nil ?_
    refine ⟨F52, _, _, t60, rfl, S57.sub, f59, e61, fun v65 F62 H63 c64 f66 => ?_⟩
    have S67 := S57.call0 c64
    obtain ⟨f_tree_here, f56⟩ := up2 f_tree_here f56 c64
    have f68 : qPat.r K F62 v55 (Pat.form t50) := (show qPat.r K F62 v55 _ from f56)
    have f69 : qPat.r K F62 v65 (Pat.form t60) := (show qPat.r K F62 v65 _ from f66)
    obtain ⟨t70, e71, hm⟩ := bd_some hm
    refine pat_or T.pf S67 f68 f69 ?_
    refine ⟨F62, _, _, _, _, t70, rfl, S67.sub, f68, f69, e71, fun v75 F72 H73 c74 f76 => ?_⟩
    have S77 := S67.call0 c74
    have f_tree_here := f_tree_here.up c74
    cases hm
    exact hQ _ _ _ S77 f76
def sp_law_marks (K : PySem.W.Frag) : Sp := fun vs H Q _ => ∃ (F : Hp) (v_trees : V) (a_trees : (List τ4ₓ)) (r : (List Pat)), vs = [v_trees] ∧ Same F H ∧ (qL τ0ₓ).r K F v_trees a_trees ∧ m_law_marks a_trees = some r ∧ ∀ v F' H', Sx P0 F H F' H' → (qL qPat).r K F' v r → Q v H'
theorem sc_law_marks : FnScope ["_law_trees", "_law_tree_here"] ["_law_trees"] (defScope s_law_marks) := ⟨rfl, rfl, rfl, by decide +kernel, rfl, by decide +kernel, by decide +kernel⟩
theorem bn_law_marks (T : Tx P K mg) : Binds K (fdOf K ("_law_marks", none)) ["_law_trees"] [] := FunD.bindsN T.F_law_marks fun _ _ _ _ _ _ us hl => match us, hl with | [_], _ => rfl
theorem ok_law_marks (T : Tx P K mg) : FnOk P w K mg base CX0 9 (He.ga K "_law_marks") (fdOf K ("_law_marks", none)) ["_law_trees"] (sp_law_marks K) := by
 refine FunD.ok T.F_law_marks sc_law_marks (fun vs H0 Q E h => ?_) (fun cdv A outer s H0 vs Q E hr h => ?_)
 ·
  obtain ⟨_, _, _, _, rfl, _⟩ := h
  rfl
 ·
  obtain ⟨F0, v_trees, a_trees, r, rfl, hE, f_trees, hm, hQ⟩ := h
  refine ⟨_, PSs.nox ((pss_one (ps_ret (pe_lc (own := [("_law_tree_here", 1)]) (tt := tYes) rfl sc_law_marks.nd (pi_listK (pv 0)) (blkOk_by (N := ["_law_trees", "_law_tree_here"]) (sc := defScope s_law_marks) (by decide +kernel)) (fun _ _ _ _ _ => pg_name (i := 1) sc_law_marks.nd rfl (Or.inl rfl)) (fun _ _ _ _ _ => pts_nil) (fun _ _ _ _ _ => (pe_call (ok_law_built T) (hr.mono (by decide)) (by rfl) T.g_law_built T.F_law_built.kp (bn_law_built T) .nil pass0 (pa_cons (pv 1) pa_nil))))))), ?_⟩
  have S : Sx P0 F0 H0 F0 H0 := Sx.refl0 hE
  unfold m_law_marks at hm
  refine rd_ret <| rd_lc <| rd_iL <| rd_v rfl ?_
  refine rd_wLF S (f_trees) (fun p1 vs2 hq3 row4 => ?_)
  obtain ⟨g5, hm⟩ := gd_some hm
  obtain ⟨t6, e7, hm⟩ := bd_some hm
  refine rd_comp (B := qPat) feedsL (typedRow row4) e7 g5 (Pc := P0) (fun _ z => z.elim) S.sub (fun (s8 : Unit) F H => True) ?_ ?_ ?_ ?_ ?_ ?_
  ·
   intro _ _ _ S9 _
   exact (Same.seq S9.sub (Same.seq S9.le hq3))
  ·
   trivial
  ·
   intros; trivial
  ·
   intros; trivial
  ·
   intro x10 v11 s12 o13 F14 H15 d16 acc17 f18 S19 w20 w21 n22 hm23 E24 N25 hN26 hE27
   have f_trees := f_trees.up S19
   have S28 := Sx.refl0 S19.sub
   unfold m_law_marks_b1 at hm23
   have f18 := f18.up S19
   obtain ⟨t29, e30, hm23⟩ := bd_some hm23
   refine rd_gn <| rd_wp rfl <| rd_yes <| if_tt <| rd_call <| rd_cons <| rd_v rfl <| rd_nil ?_
   refine ⟨F14, _, _, t29, rfl, S28.sub, f18, e30, fun v34 F31 H32 c33 f35 => ?_⟩
   have S36 := S28.call0 c33
   obtain ⟨f_trees, f18⟩ := up2 f_trees f18 c33
   cases hm23
   exact hN26 _ _ _ _ rfl S36 f35 trivial
  intro p37 us38 F39 H40 n41 c42 w43 w44 r45
  have z46 := S.free0 n41
  have S47 := S.call0 c42
  have f_trees := f_trees.up c42
  have w48 : Ow P0 H0 _ _ _ _ := ⟨w44.fr, w44.at_, .inl z46⟩
  obtain ⟨F49, S50, le51, f52, _, eq53⟩ := fz S47 w48 z46 r45
  have f_trees := (qL τ0ₓ).mono le51 f_trees
  cases hm
  exact hQ _ _ _ S50 f52
def sp_law_ruled (K : PySem.W.Frag) : Sp := fun vs H Q _ => ∃ (F : Hp) (v_rule_here : V) (a_rule_here : τ1ₓ) (r : τ3ₓ), vs = [v_rule_here] ∧ Same F H ∧ (qLr τ2ₓ).r K F v_rule_here a_rule_here ∧ m_law_ruled a_rule_here = some r ∧ ∀ v F' H', Sx P0 F H F' H' → qRule.r K F' v r → Q v H'
theorem sc_law_ruled : FnScope ["_law_rule_here", "_law_begins"] ["_law_rule_here"] (defScope s_law_ruled) := ⟨rfl, rfl, rfl, by decide +kernel, rfl, by decide +kernel, by decide +kernel⟩
theorem bn_law_ruled (T : Tx P K mg) : Binds K (fdOf K ("_law_ruled", none)) ["_law_rule_here"] [] := FunD.bindsN T.F_law_ruled fun _ _ _ _ _ _ us hl => match us, hl with | [_], _ => rfl
theorem ok_law_ruled (T : Tx P K mg) : FnOk P w K mg base CX0 10 (He.ga K "_law_ruled") (fdOf K ("_law_ruled", none)) ["_law_rule_here"] (sp_law_ruled K) := by
 refine FunD.ok T.F_law_ruled sc_law_ruled (fun vs H0 Q E h => ?_) (fun cdv A outer s H0 vs Q E hr h => ?_)
 ·
  obtain ⟨_, _, _, _, rfl, _⟩ := h
  rfl
 ·
  obtain ⟨F0, v_rule_here, a_rule_here, r, rfl, hE, f_rule_here, hm, hQ⟩ := h
  refine ⟨_, PSs.nox ((pss_cons (ps_set (i := 1) sc_law_ruled.nd rfl (dk rfl) (pe_call (ok_law_marks T) (hr.mono (by decide)) (by rfl) T.g_law_marks T.F_law_marks.kp (bn_law_marks T) .nil pass0 (pa_cons (pe_ix (r := rIxL K) ix_list (pv 0) pe_int (fun _ _ => rfl)) pa_nil))) (pss_one (ps_ret (pe_makeK T.mk_Rule (ok_Rule___init__ T) (hr.mono (by decide)) (by rfl) T.gc_Rule (kb_Rule___init___0 T).choose_spec pass0 (pa_cons (pv 1) (pa_cons (pe_call (ok_law_marks T) (hr.mono (by decide)) (by rfl) T.g_law_marks T.F_law_marks.kp (bn_law_marks T) .nil pass0 (pa_cons (pe_ix (r := rIxL K) ix_list (pv 0) pe_int (fun _ _ => rfl)) pa_nil)) pa_nil)) (pk_cons (pe_ix (r := rIxL K) ix_list (pv 0) pe_int (fun _ _ => rfl)) (pk_cons (pe_ix (r := rIxL K) ix_list (pv 0) pe_int (fun _ _ => rfl)) (pk_cons (pe_ix (r := rIxL K) ix_list (pv 0) pe_int (fun _ _ => rfl)) (pk_cons (pe_ix (r := rIxL K) ix_list (pv 0) pe_int (fun _ _ => rfl)) pk_nil))))))))), ?_⟩
  have S : Sx P0 F0 H0 F0 H0 := Sx.refl0 hE
  unfold m_law_ruled at hm
  refine rd_seq <| rd_asg <| rd_call <| rd_cons <| rd_op <| rd_v rfl <| rd_c ?_
  refine rd_xLr (i := 0) S f_rule_here ra0 (fun _ _ _ _ r => by obtain ⟨u0, s_u0, rfl, _, u1, s_u1, rfl, _, u2, s_u2, rfl, _, u3, s_u3, rfl, _, u4, s_u4, rfl, _, u5, rfl, _⟩ := r; exact Nat.le_of_ble_eq_true rfl) (fun u1 f2 => ?_)
  have f2 : (qL τ0ₓ).r K F0 u1 (a_rule_here).1 := f2
  obtain ⟨t3, e4, hm⟩ := bd_some hm
  refine rd_nil ?_
  refine ⟨F0, _, _, t3, rfl, S.sub, f2, e4, fun v8 F5 H6 c7 f9 => ?_⟩
  have S10 := S.call0 c7
  have f_rule_here := f_rule_here.up c7
  refine rd_gn <| rd_ret ?_
  refine rd_makeK ?_
  refine rd_cons <| rd_v rfl <| rd_cons <| rd_call <| rd_cons <| rd_op <| rd_v rfl <| rd_c ?_
  refine rd_xLr (i := 1) S10 f_rule_here (raS ra0) (fun _ _ _ _ r => by obtain ⟨u0, s_u0, rfl, _, u1, s_u1, rfl, _, u2, s_u2, rfl, _, u3, s_u3, rfl, _, u4, s_u4, rfl, _, u5, rfl, _⟩ := r; exact Nat.le_of_ble_eq_true rfl) (fun u11 f12 => ?_)
  have f12 : (qL τ0ₓ).r K F5 u11 (a_rule_here).2.1 := f12
  obtain ⟨t13, e14, hm⟩ := bd_some hm
  refine rd_nil ?_
  refine ⟨F5, _, _, t13, rfl, S10.sub, f12, e14, fun v18 F15 H16 c17 f19 => ?_⟩
  have S20 := S10.call0 c17
  obtain ⟨f_rule_here, f9⟩ := up2 f_rule_here f9 c17
  refine rd_nil <| rd_cons <| rd_op <| rd_v rfl <| rd_c ?_
  refine rd_xLr (i := 2) S20 f_rule_here (raS (raS ra0)) (fun _ _ _ _ r => by obtain ⟨u0, s_u0, rfl, _, u1, s_u1, rfl, _, u2, s_u2, rfl, _, u3, s_u3, rfl, _, u4, s_u4, rfl, _, u5, rfl, _⟩ := r; exact Nat.le_of_ble_eq_true rfl) (fun u21 f22 => ?_)
  have f22 : (qO qI).r K F15 u21 (a_rule_here).2.2.1 := f22
  refine rd_cons <| rd_op <| rd_v rfl <| rd_c ?_
  refine rd_xLr (i := 3) S20 f_rule_here (raS (raS (raS ra0))) (fun _ _ _ _ r => by obtain ⟨u0, s_u0, rfl, _, u1, s_u1, rfl, _, u2, s_u2, rfl, _, u3, s_u3, rfl, _, u4, s_u4, rfl, _, u5, rfl, _⟩ := r; exact Nat.le_of_ble_eq_true rfl) (fun u23 f24 => ?_)
  cases (show u23 = (V.bl ((a_rule_here).2.2.2.1)) from f24)
  refine rd_cons <| rd_op <| rd_v rfl <| rd_c ?_
  refine rd_xLr (i := 4) S20 f_rule_here (raS (raS (raS (raS ra0)))) (fun _ _ _ _ r => by obtain ⟨u0, s_u0, rfl, _, u1, s_u1, rfl, _, u2, s_u2, rfl, _, u3, s_u3, rfl, _, u4, s_u4, rfl, _, u5, rfl, _⟩ := r; exact Nat.le_of_ble_eq_true rfl) (fun u25 f26 => ?_)
  have f26 : (qO qI).r K F15 u25 (a_rule_here).2.2.2.2.1 := f26
  refine rd_cons <| rd_op <| rd_v rfl <| rd_c ?_
  refine rd_xLr (i := 5) S20 f_rule_here (raS (raS (raS (raS (raS ra1))))) (fun _ _ _ _ r => by obtain ⟨u0, s_u0, rfl, _, u1, s_u1, rfl, _, u2, s_u2, rfl, _, u3, s_u3, rfl, _, u4, s_u4, rfl, _, u5, rfl, _⟩ := r; exact Nat.le_of_ble_eq_true rfl) (fun u27 f28 => ?_)
  cases (show u27 = (V.bl ((a_rule_here).2.2.2.2.2)) from f28)
  obtain ⟨t29, e30, hm⟩ := bd_some hm
  refine rd_nil ?_
  refine mkk_at (rest := [v8, v18, u21, (V.bl ((a_rule_here).2.2.2.1)), u25, (V.bl ((a_rule_here).2.2.2.2.2))]) rfl rfl (fun _ => rfl) ?_
  refine new_Rule S20 f9 f19 (thO_r f22) (show qTh.r K F15 _ (Th.d (PyData.bool ((a_rule_here).2.2.2.1))) from Dp.bl _) (thO_r f26) (show qTh.r K F15 _ (Th.d (PyData.bool ((a_rule_here).2.2.2.2.2))) from Dp.bl _) e30 (fun v31 F32 H33 c34 f35 => ?_)
  have S36 := S20.call0 c34
  obtain ⟨f_rule_here, f9⟩ := up2 f_rule_here f9 c34
  cases hm
  exact hQ _ _ _ S36 f35
def sp_law_name (K : PySem.W.Frag) : Sp := fun vs H Q _ => ∃ (F : Hp) (v_tree_here : V) (a_tree_here : τ4ₓ) (r : Str), vs = [v_tree_here] ∧ Same F H ∧ τ0ₓ.r K F v_tree_here a_tree_here ∧ m_law_name a_tree_here = some r ∧ ∀ v F' H', Sx P0 F H F' H' → qS.r K F' v r → Q v H'
theorem sc_law_name : FnScope ["_law_tree_here"] ["_law_tree_here"] (defScope s_law_name) := ⟨rfl, rfl, rfl, by decide +kernel, rfl, by decide +kernel, by decide +kernel⟩
theorem bn_law_name (T : Tx P K mg) : Binds K (fdOf K ("_law_name", none)) ["_law_tree_here"] [] := FunD.bindsN T.F_law_name fun _ _ _ _ _ _ us hl => match us, hl with | [_], _ => rfl
theorem ok_law_name (T : Tx P K mg) : FnOk P w K mg base CX0 1 (He.ga K "_law_name") (fdOf K ("_law_name", none)) ["_law_tree_here"] (sp_law_name K) := by
 refine FunD.ok T.F_law_name sc_law_name (fun vs H0 Q E h => ?_) (fun cdv A outer s H0 vs Q E hr h => ?_)
 ·
  obtain ⟨_, _, _, _, rfl, _⟩ := h
  rfl
 ·
  obtain ⟨F0, v_tree_here, a_tree_here, r, rfl, hE, f_tree_here, hm, hQ⟩ := h
  refine ⟨_, PSs.nox ((pss_cons (ps_if (pt_cmpR op_eqS (pe_ix (r := rIxL K) ix_list (pv 0) pe_int (fun _ _ => rfl)) pe_str (nomark _)) (pss_one (ps_ret (pe_bmK (K := K) PySem.F.plainAttrs_str PySem.F.slot_str_join PySem.F.type_str_join (mt_joinKK (K := K)) pe_str (pa_cons (pe_ix (r := rIxL K) ix_list (pv 0) pe_int (fun _ _ => rfl)) pa_nil)))) pss_nil) (pss_one (ps_ret (pe_op op_catS (pe_op op_catS (pe_op op_catS (pe_op op_catS (pe_op op_catS (pe_op op_catS pe_str (pe_bmK (K := K) PySem.F.plainAttrs_str PySem.F.slot_str_join PySem.F.type_str_join (mt_joinKK (K := K)) pe_str (pa_cons (pe_ix (r := rIxL K) ix_list (pv 0) pe_int (fun _ _ => rfl)) pa_nil))) pe_str) (pe_ix (r := rIxL K) ix_list (pv 0) pe_int (fun _ _ => rfl))) pe_str) (pe_bmK (K := K) PySem.F.plainAttrs_str PySem.F.slot_str_join PySem.F.type_str_join (mt_joinKK (K := K)) pe_str (pa_cons (pe_ix (r := rIxL K) ix_list (pv 0) pe_int (fun _ _ => rfl)) pa_nil))) pe_str))))), ?_⟩
  have S : Sx P0 F0 H0 F0 H0 := Sx.refl0 hE
  unfold m_law_name at hm
  refine rd_seq <| rd_ifS <| rd_test <| rd_op <| rd_op <| rd_v rfl <| rd_c ?_
  refine rd_xLr (i := 0) S f_tree_here ra0 (fun _ _ _ _ r => by obtain ⟨u0, s_u0, rfl, _, u1, s_u1, rfl, _, u2, rfl, _⟩ := r; exact Nat.le_of_ble_eq_true rfl) (fun u1 f2 => ?_)
  cases (show u1 = (V.str ((a_tree_here).1)) from f2)
  refine rd_c <| rd_S0 <| rd_b ?_
  refine if_b hm (fun b3 hm => ?_) (fun b3 hm => ?_)
  ·
   refine rd_ret <| rd_bm <| rd_c <| rd_ty (tyS_str) <| rd_cons <| rd_op <| rd_v rfl <| rd_c ?_
   refine rd_xLr (i := 1) S f_tree_here (raS ra0) (fun _ _ _ _ r => by obtain ⟨u0, s_u0, rfl, _, u1, s_u1, rfl, _, u2, rfl, _⟩ := r; exact Nat.le_of_ble_eq_true rfl) (fun u4 f5 => ?_)
   have f5 : (qL qS).r K F0 u4 (a_tree_here).2.1 := f5
   obtain ⟨g6, hm⟩ := gd_some hm
   cases hm
   refine rd_nil ?_
   refine rd_join (S.l f5).r.q g6 ?_
   exact hQ _ _ _ S rfl
  ·
   refine rd_next <| rd_ret <| rd_op <| rd_op <| rd_op <| rd_op <| rd_op <| rd_op <| rd_c <| rd_bm <| rd_c <| rd_ty (tyS_str) <| rd_cons <| rd_op <| rd_v rfl <| rd_c ?_
   refine rd_xLr (i := 1) S f_tree_here (raS ra0) (fun _ _ _ _ r => by obtain ⟨u0, s_u0, rfl, _, u1, s_u1, rfl, _, u2, rfl, _⟩ := r; exact Nat.le_of_ble_eq_true rfl) (fun u7 f8 => ?_)
   have f8 : (qL qS).r K F0 u7 (a_tree_here).2.1 := f8
   obtain ⟨g9, hm⟩ := gd_some hm
   obtain ⟨g10, hm⟩ := gd_some hm
   obtain ⟨g11, hm⟩ := gd_some hm
   refine rd_nil ?_
   refine rd_join (S.l f8).r.q g9 ?_
   refine rd_catS g10 ?_
   refine rd_c ?_
   refine rd_catS g11 ?_
   refine rd_op <| rd_v rfl <| rd_c ?_
   refine rd_xLr (i := 0) S f_tree_here ra0 (fun _ _ _ _ r => by obtain ⟨u0, s_u0, rfl, _, u1, s_u1, rfl, _, u2, rfl, _⟩ := r; exact Nat.le_of_ble_eq_true rfl) (fun u12 f13 => ?_)
   cases (show u12 = (V.str ((a_tree_here).1)) from f13)
   obtain ⟨g14, hm⟩ := gd_some hm
   obtain ⟨g15, hm⟩ := gd_some hm
   refine rd_catS g14 ?_
   refine rd_c ?_
   refine rd_catS g15 ?_
   refine rd_bm <| rd_c <| rd_ty (tyS_str) <| rd_cons <| rd_op <| rd_v rfl <| rd_c ?_
   refine rd_xLr (i := 2) S f_tree_here (raS (raS ra1)) (fun _ _ _ _ r => by obtain ⟨u0, s_u0, rfl, _, u1, s_u1, rfl, _, u2, rfl, _⟩ := r; exact Nat.le_of_ble_eq_true rfl) (fun u16 f17 => ?_)
   have f17 : (qL qS).r K F0 u16 (a_tree_here).2.2 := f17
   obtain ⟨g18, hm⟩ := gd_some hm
   obtain ⟨g19, hm⟩ := gd_some hm
   obtain ⟨g20, hm⟩ := gd_some hm
   cases hm
   refine rd_nil ?_
   refine rd_join (S.l f17).r.q g18 ?_
   refine rd_catS g19 ?_
   refine rd_c ?_
   refine rd_catS g20 ?_
   exact hQ _ _ _ S rfl
def sp_law_among (K : PySem.W.Frag) : Sp := fun vs H Q _ => ∃ (F : Hp) (v_trees : V) (a_trees : (List τ4ₓ)) (v_others : V) (a_others : (List τ4ₓ)) (r : Bool), vs = [v_trees, v_others] ∧ Same F H ∧ (qL τ0ₓ).r K F v_trees a_trees ∧ (qL τ0ₓ).r K F v_others a_others ∧ m_law_among a_trees a_others = some r ∧ ∀ v F' H', Sx P0 F H F' H' → qB.r K F' v r → Q v H'
theorem sc_law_among : FnScope ["_law_trees", "_law_others", "_law_names", "_law_tree_here"] ["_law_trees", "_law_others"] (defScope s_law_among) := ⟨rfl, rfl, rfl, by decide +kernel, rfl, by decide +kernel, by decide +kernel⟩
theorem bn_law_among (T : Tx P K mg) : Binds K (fdOf K ("_law_among", none)) ["_law_trees", "_law_others"] [] := FunD.bindsN T.F_law_among fun _ _ _ _ _ _ us hl => match us, hl with | [_, _], _ => rfl
theorem ok_law_among (T : Tx P K mg) : FnOk P w K mg base CX0 2 (He.ga K "_law_among") (fdOf K ("_law_among", none)) ["_law_trees", "_law_others"] (sp_law_among K) := by
 refine FunD.ok T.F_law_among sc_law_among (fun vs H0 Q E h => ?_) (fun cdv A outer s H0 vs Q E hr h => ?_)
 ·
  obtain ⟨_, _, _, _, _, _, rfl, _⟩ := h
  rfl
 ·
  obtain ⟨F0, v_trees, a_trees, v_others, a_others, r, rfl, hE, f_trees, f_others, hm, hQ⟩ := h
  refine ⟨_, PSs.nox ((pss_cons (ps_set (i := 2) sc_law_among.nd rfl (dk rfl) (pe_lc (own := [("_law_tree_here", 3)]) (tt := tYes) rfl sc_law_among.nd (pi_listK (pv 1)) (blkOk_by (N := ["_law_trees", "_law_others", "_law_names", "_law_tree_here"]) (sc := defScope s_law_among) (by decide +kernel)) (fun _ _ _ _ _ => pg_name (i := 3) sc_law_among.nd rfl (Or.inl rfl)) (fun _ _ _ _ _ => pts_nil) (fun _ _ _ _ _ => (pe_call (ok_law_name T) (hr.mono (by decide)) (by rfl) T.g_law_name T.F_law_name.kp (bn_law_name T) .nil pass0 (pa_cons (pv 3) pa_nil))))) (pss_one (ps_ret (pe_cmpR (r := rEqD K) (op_eqD hr.units) (pe_lc (own := [("_law_tree_here", 3)]) rfl sc_law_among.nd (pi_listK (pv 0)) (blkOk_by (N := ["_law_trees", "_law_others", "_law_names", "_law_tree_here"]) (sc := defScope s_law_among) (by decide +kernel)) (fun _ _ _ _ _ => pg_name (i := 3) sc_law_among.nd rfl (Or.inl rfl)) (fun _ _ _ _ _ => (pts_one (pt_cmpR (r := rIn K true) op_notIn_seq (pe_call (ok_law_name T) (hr.mono (by decide)) (by rfl) T.g_law_name T.F_law_name.kp (bn_law_name T) .nil pass0 (pa_cons (pv 3) pa_nil)) (pv 2) rfl))) (fun _ _ _ _ _ => (pv 3))) (pe_lst pa_nil) (nomark _)))))), ?_⟩
  have S : Sx P0 F0 H0 F0 H0 := Sx.refl0 hE
  unfold m_law_among at hm
  refine rd_seq <| rd_asg <| rd_lc <| rd_iL <| rd_v rfl ?_
  refine rd_wLF S (f_others) (fun p1 vs2 hq3 row4 => ?_)
  obtain ⟨g5, hm⟩ := gd_some hm
  obtain ⟨t6, e7, hm⟩ := bd_some hm
  refine rd_comp (B := qS) feedsL (typedRow row4) e7 g5 (Pc := P0) (fun _ z => z.elim) S.sub (fun (s8 : Unit) F H => True) ?_ ?_ ?_ ?_ ?_ ?_
  ·
   intro _ _ _ S9 _
   exact (Same.seq S9.sub (Same.seq S9.le hq3))
  ·
   trivial
  ·
   intros; trivial
  ·
   intros; trivial
  ·
   intro x10 v11 s12 o13 F14 H15 d16 acc17 f18 S19 w20 w21 n22 hm23 E24 N25 hN26 hE27
   obtain ⟨f_trees, f_others⟩ := up2 f_trees f_others S19
   have S28 := Sx.refl0 S19.sub
   unfold m_law_among_b1 at hm23
   have f18 := f18.up S19
   obtain ⟨t29, e30, hm23⟩ := bd_some hm23
   refine rd_gn <| rd_wp rfl <| rd_yes <| if_tt <| rd_call <| rd_cons <| rd_v rfl <| rd_nil ?_
   refine ⟨F14, _, _, t29, rfl, S28.sub, f18, e30, fun v34 F31 H32 c33 f35 => ?_⟩
   have S36 := S28.call0 c33
   obtain ⟨f_trees, f_others, f18⟩ := up3 f_trees f_others f18 c33
   cases (show v34 = (V.str (t29)) from f35)
   cases hm23
   exact hN26 _ _ _ _ rfl S36 rfl trivial
  intro p37 us38 F39 H40 n41 c42 w43 w44 r45
  have z46 := S.free0 n41
  have S47 := S.call0 c42
  obtain ⟨f_trees, f_others⟩ := up2 f_trees f_others c42
  have w48 : Ow P0 H0 _ _ _ _ := ⟨w44.fr, w44.at_, .inl z46⟩
  obtain ⟨F49, S50, le51, f52, _, eq53⟩ := fz S47 w48 z46 r45
  have f_trees := (qL τ0ₓ).mono le51 f_trees
  have f_others := (qL τ0ₓ).mono le51 f_others
  refine rd_gn <| rd_ret <| rd_op <| rd_lc <| rd_iL <| rd_v rfl ?_
  refine rd_wLF S50 (f_trees) (fun p54 vs55 hq56 row57 => ?_)
  obtain ⟨g58, hm⟩ := gd_some hm
  obtain ⟨t59, e60, hm⟩ := bd_some hm
  refine rd_comp (B := τ0ₓ) feedsL (typedRow row57) e60 g58 (Pc := P0) (fun _ z => z.elim) S50.sub (fun (s61 : Unit) F H => True) ?_ ?_ ?_ ?_ ?_ ?_
  ·
   intro _ _ _ S62 _
   exact (Same.seq S62.sub (Same.seq S62.le hq56))
  ·
   trivial
  ·
   intros; trivial
  ·
   intros; trivial
  ·
   intro x63 v64 s65 o66 F67 H68 d69 acc70 f71 S72 w73 w74 n75 hm76 E77 N78 hN79 hE80
   obtain ⟨f_trees, f_others, f52⟩ := up3 f_trees f_others f52 S72
   have S81 := Sx.refl0 S72.sub
   unfold m_law_among_b2 at hm76
   have f71 := f71.up S72
   obtain ⟨t82, e83, hm76⟩ := bd_some hm76
   refine rd_gn <| rd_wp rfl <| rd_test <| rd_op <| rd_call <| rd_cons <| rd_v rfl <| rd_nil ?_
   refine ⟨F67, _, _, t82, rfl, S81.sub, f71, e83, fun v87 F84 H85 c86 f88 => ?_⟩
   have S89 := S81.call0 c86
   obtain ⟨f_trees, f_others, f71, f52⟩ := up4 f_trees f_others f71 f52 c86
   cases (show v87 = (V.str (t82)) from f88)
   refine rd_v rfl ?_
   refine rd_niS (S89.l f52).r.q ?_
   refine rd_b ?_
   refine if_b hm76 (fun b90 hm76 => ?_) (fun b90 hm76 => ?_)
   ·
    cases hm76
    refine rd_v rfl ?_
    exact hN79 _ _ _ _ rfl S89 f71 trivial
   ·
    cases hm76
    exact hE80 _ _ rfl S89 trivial
  intro p91 us92 F93 H94 n95 c96 w97 w98 r99
  have z100 := S50.free0 n95
  have S101 := S50.call0 c96
  obtain ⟨f_trees, f_others, f52⟩ := up3 f_trees f_others f52 c96
  have w102 : Ow P0 H0 _ _ _ _ := ⟨w98.fr, w98.at_, .inl z100⟩
  obtain ⟨F103, S104, le105, f106, _, eq107⟩ := fz S101 w102 z100 r99
  have f_trees := (qL τ0ₓ).mono le105 f_trees
  have f_others := (qL τ0ₓ).mono le105 f_others
  have f52 := (qL qS).mono le105 f52
  refine rd_lst <| rd_nil <| rd_lK rfl ?_
  refine alL (K := K) (A := τ0ₓ) (xs := ([] : List τ4ₓ)) S104 .nil (fun v108 F109 H110 c111 f112 => ?_)
  have S113 := S104.call0 c111
  obtain ⟨f_trees, f_others, f52, f106⟩ := up4 f_trees f_others f52 f106 c111
  obtain ⟨g114, hm⟩ := gd_some hm
  obtain ⟨g115, hm⟩ := gd_some hm
  cases hm
  refine rd_eqD (D := (dL (dLr (ec dS (ec (dL dS) (e1 (dL dS))))))) (S113.d (dL (dLr (ec dS (ec (dL dS) (e1 (dL dS)))))) f106) (S113.d (dL (dLr (ec dS (ec (dL dS) (e1 (dL dS)))))) f112) g114 g115 ?_
  exact hQ _ _ _ S113 rfl
def sp_law_part (K : PySem.W.Frag) : Sp := fun vs H Q _ => ∃ (F : Hp) (v_rule_here : V) (a_rule_here : τ1ₓ) (v_other_here : V) (a_other_here : τ1ₓ) (r : Bool), vs = [v_rule_here, v_other_here] ∧ Same F H ∧ (qLr τ2ₓ).r K F v_rule_here a_rule_here ∧ (qLr τ2ₓ).r K F v_other_here a_other_here ∧ m_law_part a_rule_here a_other_here = some r ∧ ∀ v F' H', Sx P0 F H F' H' → qB.r K F' v r → Q v H'
theorem sc_law_part : FnScope ["_law_rule_here", "_law_other_here"] ["_law_rule_here", "_law_other_here"] (defScope s_law_part) := ⟨rfl, rfl, rfl, by decide +kernel, rfl, by decide +kernel, by decide +kernel⟩
theorem bn_law_part (T : Tx P K mg) : Binds K (fdOf K ("_law_part", none)) ["_law_rule_here", "_law_other_here"] [] := FunD.bindsN T.F_law_part fun _ _ _ _ _ _ us hl => match us, hl with | [_, _], _ => rfl
theorem ok_law_part (T : Tx P K mg) : FnOk P w K mg base CX0 3 (He.ga K "_law_part") (fdOf K ("_law_part", none)) ["_law_rule_here", "_law_other_here"] (sp_law_part K) := by
 refine FunD.ok T.F_law_part sc_law_part (fun vs H0 Q E h => ?_) (fun cdv A outer s H0 vs Q E hr h => ?_)
 ·
  obtain ⟨_, _, _, _, _, _, rfl, _⟩ := h
  rfl
 ·
  obtain ⟨F0, v_rule_here, a_rule_here, v_other_here, a_other_here, r, rfl, hE, f_rule_here, f_other_here, hm, hQ⟩ := h
  refine ⟨_, PSs.nox ((pss_cons (ps_if (pt_cmpR (r := rNeD K) (op_neD hr.units) (pe_slice (r := rSlL K) sl_list (pv 0) (po_some pe_int) po_none) (pe_slice (r := rSlL K) sl_list (pv 1) (po_some pe_int) po_none) (nomark _)) (pss_one (ps_ret pe_bl)) pss_nil) (pss_one (ps_ret (pe_and (pe_call (ok_law_among T) (hr.mono (by decide)) (by rfl) T.g_law_among T.F_law_among.kp (bn_law_among T) .nil pass0 (pa_cons (pe_ix (r := rIxL K) ix_list (pv 0) pe_int (fun _ _ => rfl)) (pa_cons (pe_ix (r := rIxL K) ix_list (pv 1) pe_int (fun _ _ => rfl)) pa_nil))) (pe_one (pe_call (ok_law_among T) (hr.mono (by decide)) (by rfl) T.g_law_among T.F_law_among.kp (bn_law_among T) .nil pass0 (pa_cons (pe_ix (r := rIxL K) ix_list (pv 0) pe_int (fun _ _ => rfl)) (pa_cons (pe_ix (r := rIxL K) ix_list (pv 1) pe_int (fun _ _ => rfl)) pa_nil))))))))), ?_⟩
  have S : Sx P0 F0 H0 F0 H0 := Sx.refl0 hE
  unfold m_law_part at hm
  refine rd_seq <| rd_ifS <| rd_test <| rd_op ?_
  refine rd_sl ?_
  refine rd_v rfl ?_
  refine rd_pt ?_
  refine rd_c ?_
  refine rd_i ?_
  refine rd_np ?_
  refine rd_slR (C := (fc (qO qI) (fc qB (fc (qO qI) (f1 qB))))) (b := (a_rule_here.2.2.1, a_rule_here.2.2.2.1, a_rule_here.2.2.2.2.1, a_rule_here.2.2.2.2.2)) S f_rule_here (by rintro _ ⟨u0, _, rfl, h0, ⟨u1, _, rfl, h1, ⟨u2, _, rfl, h2, ⟨u3, _, rfl, h3, ⟨u4, _, rfl, h4, ⟨u5, rfl, h5⟩⟩⟩⟩⟩⟩; exact ⟨_, _, rfl, h2, ⟨_, _, rfl, h3, ⟨_, _, rfl, h4, ⟨_, rfl, h5⟩⟩⟩⟩) (fun v1 F2 H3 c4 f5 => ?_)
  have S6 := S.call0 c4
  obtain ⟨f_rule_here, f_other_here⟩ := up2 f_rule_here f_other_here c4
  refine rd_sl ?_
  refine rd_v rfl ?_
  refine rd_pt ?_
  refine rd_c ?_
  refine rd_i ?_
  refine rd_np ?_
  refine rd_slR (C := (fc (qO qI) (fc qB (fc (qO qI) (f1 qB))))) (b := (a_other_here.2.2.1, a_other_here.2.2.2.1, a_other_here.2.2.2.2.1, a_other_here.2.2.2.2.2)) S6 f_other_here (by rintro _ ⟨u0, _, rfl, h0, ⟨u1, _, rfl, h1, ⟨u2, _, rfl, h2, ⟨u3, _, rfl, h3, ⟨u4, _, rfl, h4, ⟨u5, rfl, h5⟩⟩⟩⟩⟩⟩; exact ⟨_, _, rfl, h2, ⟨_, _, rfl, h3, ⟨_, _, rfl, h4, ⟨_, rfl, h5⟩⟩⟩⟩) (fun v7 F8 H9 c10 f11 => ?_)
  have S12 := S6.call0 c10
  obtain ⟨f_rule_here, f_other_here, f5⟩ := up3 f_rule_here f_other_here f5 c10
  obtain ⟨g13, hm⟩ := gd_some hm
  obtain ⟨g14, hm⟩ := gd_some hm
  refine rd_neD (D := (dLr (ec (dO dI) (ec dB (ec (dO dI) (e1 dB)))))) (S12.d (dLr (ec (dO dI) (ec dB (ec (dO dI) (e1 dB))))) f5) (S12.d (dLr (ec (dO dI) (ec dB (ec (dO dI) (e1 dB))))) f11) g13 g14 ?_
  refine rd_b ?_
  refine if_b hm (fun b15 hm => ?_) (fun b15 hm => ?_)
  ·
   cases hm
   refine rd_ret <| rd_c ?_
   exact hQ _ _ _ S12 rfl
  ·
   refine rd_next <| rd_ret <| rd_andV <| rd_call <| rd_cons <| rd_op <| rd_v rfl <| rd_c ?_
   refine rd_xLr (i := 0) S12 f_rule_here ra0 (fun _ _ _ _ r => by obtain ⟨u0, s_u0, rfl, _, u1, s_u1, rfl, _, u2, s_u2, rfl, _, u3, s_u3, rfl, _, u4, s_u4, rfl, _, u5, rfl, _⟩ := r; exact Nat.le_of_ble_eq_true rfl) (fun u16 f17 => ?_)
   have f17 : (qL τ0ₓ).r K F8 u16 (a_rule_here).1 := f17
   refine rd_cons <| rd_op <| rd_v rfl <| rd_c ?_
   refine rd_xLr (i := 0) S12 f_other_here ra0 (fun _ _ _ _ r => by obtain ⟨u0, s_u0, rfl, _, u1, s_u1, rfl, _, u2, s_u2, rfl, _, u3, s_u3, rfl, _, u4, s_u4, rfl, _, u5, rfl, _⟩ := r; exact Nat.le_of_ble_eq_true rfl) (fun u18 f19 => ?_)
   have f19 : (qL τ0ₓ).r K F8 u18 (a_other_here).1 := f19
   obtain ⟨t20, e21, hm⟩ := bd_some hm
   refine rd_nil ?_
   refine ⟨F8, _, _, _, _, t20, rfl, S12.sub, f17, f19, e21, fun v25 F22 H23 c24 f26 => ?_⟩
   have S27 := S12.call0 c24
   obtain ⟨f_rule_here, f_other_here⟩ := up2 f_rule_here f_other_here c24
   cases (show v25 = (V.bl (t20)) from f26)
   obtain ⟨t40, e41, hm⟩ := bd_some hm
   refine rd_b ?_
   refine andV_j (fun c H' => c = V.bl t40 ∧ ∃ F', Sx P0 F22 H23 F' H') ?_ ?_ ?_
   ·
    intro b42 Q43 q44
    have e41 := if_t e41 b42
    have S45 := Sx.refl0 S27.sub
    refine rd_call <| rd_cons <| rd_op <| rd_v rfl <| rd_c ?_
    refine rd_xLr (i := 1) S45 f_rule_here (raS ra0) (fun _ _ _ _ r => by obtain ⟨u0, s_u0, rfl, _, u1, s_u1, rfl, _, u2, s_u2, rfl, _, u3, s_u3, rfl, _, u4, s_u4, rfl, _, u5, rfl, _⟩ := r; exact Nat.le_of_ble_eq_true rfl) (fun u46 f47 => ?_)
    have f47 : (qL τ0ₓ).r K F22 u46 (a_rule_here).2.1 := f47
    refine rd_cons <| rd_op <| rd_v rfl <| rd_c ?_
    refine rd_xLr (i := 1) S45 f_other_here (raS ra0) (fun _ _ _ _ r => by obtain ⟨u0, s_u0, rfl, _, u1, s_u1, rfl, _, u2, s_u2, rfl, _, u3, s_u3, rfl, _, u4, s_u4, rfl, _, u5, rfl, _⟩ := r; exact Nat.le_of_ble_eq_true rfl) (fun u48 f49 => ?_)
    have f49 : (qL τ0ₓ).r K F22 u48 (a_other_here).2.1 := f49
    obtain ⟨t50, e51, e41⟩ := bd_some e41
    refine rd_nil ?_
    refine ⟨F22, _, _, _, _, t50, rfl, S45.sub, f47, f49, e51, fun v55 F52 H53 c54 f56 => ?_⟩
    have S57 := S45.call0 c54
    obtain ⟨f_rule_here, f_other_here⟩ := up2 f_rule_here f_other_here c54
    cases (show v55 = (V.bl (t50)) from f56)
    cases e41
    exact q44 _ _ ⟨rfl, F52, S57⟩
   ·
    intro b42
    have e41 := if_f e41 b42
    cases e41
    have S58 := Sx.refl0 S27.sub
    exact ⟨rfl, F22, S58⟩
   rintro b62 H60 ⟨rfl, F59, c61⟩
   have S63 := S27.call0 c61
   obtain ⟨f_rule_here, f_other_here⟩ := up2 f_rule_here f_other_here c61
   cases hm
   exact hQ _ _ _ S63 rfl
def sp_law_line (K : PySem.W.Frag) : Sp := fun vs H Q _ => ∃ (F : Hp) (p_pool_here : Addr) (a_pool_here : Int × Int) (v_parts_here : V) (a_parts_here : (List Str)) (r : (Str × (Int × Int))), vs = [.ref p_pool_here, v_parts_here] ∧ Same F H ∧ Ow (fun a => a = p_pool_here) H F H p_pool_here (.lst [.int a_pool_here.1, .int a_pool_here.2]) ∧ (qL qS).r K F v_parts_here a_parts_here ∧ m_law_line a_pool_here a_parts_here = some r ∧ ∀ v F' H', Sx (fun a => a = p_pool_here) F H F' H' → Ow (fun a => a = p_pool_here) H F' H' p_pool_here (.lst [.int r.2.1, .int r.2.2]) → qS.r K F' v r.1 → Q v H'
theorem sc_law_line : FnScope ["_law_pool_here", "_law_parts_here", "_law_line_here", "_law_part_here"] ["_law_pool_here", "_law_parts_here"] (defScope s_law_line) := ⟨rfl, rfl, rfl, by decide +kernel, rfl, by decide +kernel, by decide +kernel⟩
theorem bn_law_line (T : Tx P K mg) : Binds K (fdOf K ("_law_line", none)) ["_law_pool_here", "_law_parts_here"] [] := FunD.bindsN T.F_law_line fun _ _ _ _ _ _ us hl => match us, hl with | [_, _], _ => rfl
theorem ok_law_line (T : Tx P K mg) : FnOk P w K mg base CX0 3 (He.ga K "_law_line") (fdOf K ("_law_line", none)) ["_law_pool_here", "_law_parts_here"] (sp_law_line K) := by
 refine FunD.ok T.F_law_line sc_law_line (fun vs H0 Q E h => ?_) (fun cdv A outer s H0 vs Q E hr h => ?_)
 ·
  obtain ⟨_, _, _, _, _, _, rfl, _⟩ := h
  rfl
 ·
  obtain ⟨F0, p_pool_here, a_pool_here, v_parts_here, a_parts_here, r, rfl, hE, w_pool_here, f_parts_here, hm, hQ⟩ := h
  refine ⟨_, PSs.nox ((pss_cons (ps_set (i := 2) sc_law_line.nd rfl (dk rfl) pe_str) (pss_cons (ps_for PassesOwn.never rfl (pi_listK (pv 1)) (pg_name (i := 3) sc_law_line.nd rfl (dk rfl)) (pss_one (ps_if (pt_cmpR op_eqS (pv 3) pe_str (nomark _)) (pss_one (ps_set (i := 2) sc_law_line.nd rfl (dk rfl) (pe_op op_catS (pv 2) (pe_op op_repS (pe_ix ix_str pe_str (pe_call (ok_law_take T) (hr.mono (by decide)) (by rfl) T.g_law_take T.F_law_take.kp (bn_law_take T) .nil pass0 (pa_cons (pv 0) (pa_cons pe_int pa_nil))) (fun _ _ => rfl)) (pe_op op_add pe_int (pe_call (ok_law_take T) (hr.mono (by decide)) (by rfl) T.g_law_take T.F_law_take.kp (bn_law_take T) .nil pass0 (pa_cons (pv 0) (pa_cons pe_int pa_nil)))))))) (pss_one (ps_if (pt_cmpR op_eqS (pv 3) pe_str (nomark _)) (pss_one (ps_set (i := 2) sc_law_line.nd rfl (dk rfl) (pe_op op_catS (pv 2) (pe_op op_repS (pe_ix ix_str pe_str (pe_call (ok_law_take T) (hr.mono (by decide)) (by rfl) T.g_law_take T.F_law_take.kp (bn_law_take T) .nil pass0 (pa_cons (pv 0) (pa_cons pe_int pa_nil))) (fun _ _ => rfl)) (pe_op op_add pe_int (pe_call (ok_law_take T) (hr.mono (by decide)) (by rfl) T.g_law_take T.F_law_take.kp (bn_law_take T) .nil pass0 (pa_cons (pv 0) (pa_cons pe_int pa_nil)))))))) (pss_one (ps_if (pt_cmpR op_eqS (pv 3) pe_str (nomark _)) (pss_one (ps_set (i := 2) sc_law_line.nd rfl (dk rfl) (pe_op op_catS (pv 2) (pe_op op_repS (pe_call (ok_law_text T) (hr.mono (by decide)) (by rfl) T.g_law_text T.F_law_text.kp (bn_law_text T) .nil pass0 (pa_cons (pv 0) pa_nil)) (pe_call (ok_law_take T) (hr.mono (by decide)) (by rfl) T.g_law_take T.F_law_take.kp (bn_law_take T) .nil pass0 (pa_cons (pv 0) (pa_cons pe_int pa_nil))))))) (pss_one (ps_set (i := 2) sc_law_line.nd rfl (dk rfl) (pe_op op_catS (pv 2) (pv 3))))))))))) (pss_cons (ps_if (pt_cmpR op_eqS (pv 2) pe_str (nomark _)) (pss_one (ps_ret (pe_call (ok_law_text T) (hr.mono (by decide)) (by rfl) T.g_law_text T.F_law_text.kp (bn_law_text T) .nil pass0 (pa_cons (pv 0) pa_nil)))) pss_nil) (pss_one (ps_ret (pv 2))))))), ?_⟩
  have S : Sx (fun a => a = p_pool_here) F0 H0 F0 H0 := Sx.refl hE (live1 w_pool_here)
  unfold m_law_line at hm
  refine rd_seq <| rd_asg <| rd_c <| rd_gn <| rd_seq <| rd_for <| rd_iL <| rd_v rfl ?_
  refine rd_wLF S (f_parts_here) (fun p1 vs2 hq3 row4 => ?_)
  obtain ⟨t5, e6, hm⟩ := bd_some hm
  refine rd_forS feedsL (typedRow row4) e6 (fun (s7 : ((Int × Int) × Str)) σ H => ∃ (F : Hp) (o3 : Option V), σ = [some (V.ref p_pool_here), some v_parts_here, some (V.str (s7.2)), o3] ∧ Sx (fun a => a = p_pool_here) F0 H0 F H ∧ Ow (fun a => a = p_pool_here) H0 F H p_pool_here (.lst [V.int s7.1.1, V.int s7.1.2])) ?_ ?_ ?_ ?_
  ·
   rintro _ _ _ ⟨_, _, _, S8, _⟩
   exact (Same.seq S8.sub (Same.seq S8.le hq3))
  ·
   have S9 : Sx (fun a => a = p_pool_here) _ _ _ _ := Sx.refl S.sub (fun a z => by rw [z, w_pool_here.at_]; exact (fun h => nomatch h))
   have w10 : Ow (fun a => a = p_pool_here) H0 _ _ _ _ := ⟨w_pool_here.fr, w_pool_here.at_, .inr (rfl)⟩
   exact ⟨F0, _, rfl, S9, w10⟩
  ·
   rintro x11 v12 s13 c17 σ14 H15 f16 ⟨F18, o20, rfl, S19, w21⟩ hm24
   have f_parts_here := f_parts_here.up S19
   unfold m_law_line_b1 at hm24
   cases (show v12 = (V.str (x11)) from f16)
   refine rd_gn <| rd_ifS <| rd_test <| rd_op <| rd_v rfl <| rd_c <| rd_S0 <| rd_b ?_
   refine if_b hm24 (fun b25 hm24 => ?_) (fun b25 hm24 => ?_)
   ·
    obtain ⟨t26, e27, hm24⟩ := bd_some hm24
    refine rd_asg <| rd_op <| rd_v rfl <| rd_op <| rd_op <| rd_c <| rd_call <| rd_cons <| rd_v rfl <| rd_cons <| rd_c <| rd_nil ?_
    refine ⟨F18, _, _, _, t26, rfl, S19.sub, w21.arg, e27, fun v31 F28 H29 c30 w33 f32 => ?_⟩
    have S34 := S19.call1 c30 w21
    have f_parts_here := f_parts_here.up c30
    have w35 := w21.back w33
    cases (show v31 = (V.int (t26.1)) from f32)
    obtain ⟨t36, e37, hm24⟩ := bd_some hm24
    obtain ⟨t38, e39, hm24⟩ := bd_some hm24
    refine rd_ixS e37 ?_
    refine rd_op <| rd_c <| rd_call <| rd_cons <| rd_v rfl <| rd_cons <| rd_c <| rd_nil ?_
    refine ⟨F28, _, _, _, t38, rfl, S34.sub, w35.arg, e39, fun v43 F40 H41 c42 w45 f44 => ?_⟩
    have S46 := S34.call1 c42 w35
    have f_parts_here := f_parts_here.up c42
    have w47 := w35.back w45
    cases (show v43 = (V.int (t38.1)) from f44)
    obtain ⟨g48, hm24⟩ := gd_some hm24
    obtain ⟨g49, hm24⟩ := gd_some hm24
    cases hm24
    refine rd_I0 ?_
    refine rd_repS g48 ?_
    refine rd_catS g49 ?_
    refine rd_gn ?_
    exact ⟨F40, _, rfl, S46, w47⟩
   ·
    refine rd_ifS <| rd_test <| rd_op <| rd_v rfl <| rd_c <| rd_S0 <| rd_b ?_
    refine if_b hm24 (fun b50 hm24 => ?_) (fun b50 hm24 => ?_)
    ·
     obtain ⟨t51, e52, hm24⟩ := bd_some hm24
     refine rd_asg <| rd_op <| rd_v rfl <| rd_op <| rd_op <| rd_c <| rd_call <| rd_cons <| rd_v rfl <| rd_cons <| rd_c <| rd_nil ?_
     refine ⟨F18, _, _, _, t51, rfl, S19.sub, w21.arg, e52, fun v56 F53 H54 c55 w58 f57 => ?_⟩
     have S59 := S19.call1 c55 w21
     have f_parts_here := f_parts_here.up c55
     have w60 := w21.back w58
     cases (show v56 = (V.int (t51.1)) from f57)
     obtain ⟨t61, e62, hm24⟩ := bd_some hm24
     obtain ⟨t63, e64, hm24⟩ := bd_some hm24
     refine rd_ixS e62 ?_
     refine rd_op <| rd_c <| rd_call <| rd_cons <| rd_v rfl <| rd_cons <| rd_c <| rd_nil ?_
     refine ⟨F53, _, _, _, t63, rfl, S59.sub, w60.arg, e64, fun v68 F65 H66 c67 w70 f69 => ?_⟩
     have S71 := S59.call1 c67 w60
     have f_parts_here := f_parts_here.up c67
     have w72 := w60.back w70
     cases (show v68 = (V.int (t63.1)) from f69)
     obtain ⟨g73, hm24⟩ := gd_some hm24
     obtain ⟨g74, hm24⟩ := gd_some hm24
     cases hm24
     refine rd_I0 ?_
     refine rd_repS g73 ?_
     refine rd_catS g74 ?_
     refine rd_gn ?_
     exact ⟨F65, _, rfl, S71, w72⟩
    ·
     refine rd_ifS <| rd_test <| rd_op <| rd_v rfl <| rd_c <| rd_S0 <| rd_b ?_
     refine if_b hm24 (fun b75 hm24 => ?_) (fun b75 hm24 => ?_)
     ·
      obtain ⟨t76, e77, hm24⟩ := bd_some hm24
      refine rd_asg <| rd_op <| rd_v rfl <| rd_op <| rd_call <| rd_cons <| rd_v rfl <| rd_nil ?_
      refine ⟨F18, _, _, t76, rfl, S19.sub, w21.arg, e77, fun v81 F78 H79 c80 w83 f82 => ?_⟩
      have S84 := S19.call1 c80 w21
      have f_parts_here := f_parts_here.up c80
      have w85 := w21.back w83
      cases (show v81 = (V.str (t76.1)) from f82)
      obtain ⟨t86, e87, hm24⟩ := bd_some hm24
      refine rd_call <| rd_cons <| rd_v rfl <| rd_cons <| rd_c <| rd_nil ?_
      refine ⟨F78, _, _, _, t86, rfl, S84.sub, w85.arg, e87, fun v91 F88 H89 c90 w93 f92 => ?_⟩
      have S94 := S84.call1 c90 w85
      have f_parts_here := f_parts_here.up c90
      have w95 := w85.back w93
      cases (show v91 = (V.int (t86.1)) from f92)
      obtain ⟨g96, hm24⟩ := gd_some hm24
      obtain ⟨g97, hm24⟩ := gd_some hm24
      cases hm24
      refine rd_repS g96 ?_
      refine rd_catS g97 ?_
      refine rd_gn ?_
      exact ⟨F88, _, rfl, S94, w95⟩
     ·
      obtain ⟨g98, hm24⟩ := gd_some hm24
      cases hm24
      refine rd_asg <| rd_op <| rd_v rfl <| rd_v rfl ?_
      refine rd_catS g98 ?_
      refine rd_gn ?_
      exact ⟨F18, _, rfl, S19, w21⟩
  ·
   rintro σ99 H100 ⟨F101, o103, rfl, S102, w104⟩
   have S105 := S.call1 S102 w_pool_here
   have f_parts_here := f_parts_here.up S102
   have w106 : Ow (fun a => a = p_pool_here) H0 _ _ _ _ := ⟨w104.fr, w104.at_, w_pool_here.mine⟩
   refine rd_seq <| rd_ifS <| rd_test <| rd_op <| rd_v rfl <| rd_c <| rd_S0 <| rd_b ?_
   refine if_b hm (fun b107 hm => ?_) (fun b107 hm => ?_)
   ·
    obtain ⟨t108, e109, hm⟩ := bd_some hm
    refine rd_ret <| rd_call <| rd_cons <| rd_v rfl <| rd_nil ?_
    refine ⟨F101, _, _, t108, rfl, S105.sub, w106.arg, e109, fun v113 F110 H111 c112 w115 f114 => ?_⟩
    have S116 := S105.call1 c112 w106
    have f_parts_here := f_parts_here.up c112
    have w117 := w106.back w115
    cases (show v113 = (V.str (t108.1)) from f114)
    cases hm
    exact hQ _ _ _ S116 w117 rfl
   ·
    cases hm
    refine rd_next <| rd_ret <| rd_v rfl ?_
    exact hQ _ _ _ S105 w106 rfl
def sp_law_written (K : PySem.W.Frag) : Sp := fun vs H Q _ => ∃ (F : Hp) (p_pool_here : Addr) (a_pool_here : Int × Int) (v_tree_here : V) (a_tree_here : τ4ₓ) (r : (Str × (Int × Int))), vs = [.ref p_pool_here, v_tree_here] ∧ Same F H ∧ Ow (fun a => a = p_pool_here) H F H p_pool_here (.lst [.int a_pool_here.1, .int a_pool_here.2]) ∧ τ0ₓ.r K F v_tree_here a_tree_here ∧ m_law_written a_pool_here a_tree_here = some r ∧ ∀ v F' H', Sx (fun a => a = p_pool_here) F H F' H' → Ow (fun a => a = p_pool_here) H F' H' p_pool_here (.lst [.int r.2.1, .int r.2.2]) → qS.r K F' v r.1 → Q v H'
theorem sc_law_written : FnScope ["_law_pool_here", "_law_tree_here"] ["_law_pool_here", "_law_tree_here"] (defScope s_law_written) := ⟨rfl, rfl, rfl, by decide +kernel, rfl, by decide +kernel, by decide +kernel⟩
theorem bn_law_written (T : Tx P K mg) : Binds K (fdOf K ("_law_written", none)) ["_law_pool_here", "_law_tree_here"] [] := FunD.bindsN T.F_law_written fun _ _ _ _ _ _ us hl => match us, hl with | [_, _], _ => rfl
theorem ok_law_written (T : Tx P K mg) : FnOk P w K mg base CX0 4 (He.ga K "_law_written") (fdOf K ("_law_written", none)) ["_law_pool_here", "_law_tree_here"] (sp_law_written K) := by
 refine FunD.ok T.F_law_written sc_law_written (fun vs H0 Q E h => ?_) (fun cdv A outer s H0 vs Q E hr h => ?_)
 ·
  obtain ⟨_, _, _, _, _, _, rfl, _⟩ := h
  rfl
 ·
  obtain ⟨F0, p_pool_here, a_pool_here, v_tree_here, a_tree_here, r, rfl, hE, w_pool_here, f_tree_here, hm, hQ⟩ := h
  refine ⟨_, PSs.nox ((pss_cons (ps_if (PW.pt (pw_and (pt_cmpR op_eqS (pe_ix (r := rIxL K) ix_list (pv 1) pe_int (fun _ _ => rfl)) pe_str (nomark _)) (pw_and1 (pt_cmpR op_eqI (pe_call (ok_law_take T) (hr.mono (by decide)) (by rfl) T.g_law_take T.F_law_take.kp (bn_law_take T) .nil pass0 (pa_cons (pv 0) (pa_cons pe_int pa_nil))) pe_int (nomark _))))) (pss_one (ps_ret (pe_call (ok_law_line T) (hr.mono (by decide)) (by rfl) T.g_law_line T.F_law_line.kp (bn_law_line T) .nil pass0 (pa_cons (pv 0) (pa_cons (pe_ix (r := rIxL K) ix_list (pv 1) pe_int (fun _ _ => rfl)) pa_nil))))) pss_nil) (pss_cons (ps_if (PW.pt (pw_and (pt_cmpR op_eqS (pe_ix (r := rIxL K) ix_list (pv 1) pe_int (fun _ _ => rfl)) pe_str (nomark _)) (pw_and1 (pt_cmpR op_eqI (pe_callB (r := rLenQ K) cr_lenQ (by rfl) T.n_len (by decide +kernel) (pa_cons (pe_ix (r := rIxL K) ix_list (pv 1) pe_int (fun _ _ => rfl)) pa_nil)) pe_int (nomark _))))) (pss_one (ps_ret (pe_op op_catS (pe_op op_catS (pe_ix (r := rIxL K) ix_list (pe_ix (r := rIxL K) ix_list (pv 1) pe_int (fun _ _ => rfl)) pe_int (fun _ _ => rfl)) (pe_op op_repS (pe_call (ok_law_text T) (hr.mono (by decide)) (by rfl) T.g_law_text T.F_law_text.kp (bn_law_text T) .nil pass0 (pa_cons (pv 0) pa_nil)) (pe_call (ok_law_take T) (hr.mono (by decide)) (by rfl) T.g_law_take T.F_law_take.kp (bn_law_take T) .nil pass0 (pa_cons (pv 0) (pa_cons pe_int pa_nil))))) (pe_ix (r := rIxL K) ix_list (pe_ix (r := rIxL K) ix_list (pv 1) pe_int (fun _ _ => rfl)) pe_int (fun _ _ => rfl))))) pss_nil) (pss_one (ps_ret (pe_call (ok_law_line T) (hr.mono (by decide)) (by rfl) T.g_law_line T.F_law_line.kp (bn_law_line T) .nil pass0 (pa_cons (pv 0) (pa_cons (pe_ix (r := rIxL K) ix_list (pv 1) pe_int (fun _ _ => rfl)) pa_nil)))))))), ?_⟩
  have S : Sx (fun a => a = p_pool_here) F0 H0 F0 H0 := Sx.refl hE (live1 w_pool_here)
  unfold m_law_written at hm
  refine rd_seq <| rd_ifS <| rd_and <| rd_test <| rd_op <| rd_op <| rd_v rfl <| rd_c ?_
  refine rd_xLr (i := 0) S f_tree_here ra0 (fun _ _ _ _ r => by obtain ⟨u0, s_u0, rfl, _, u1, s_u1, rfl, _, u2, rfl, _⟩ := r; exact Nat.le_of_ble_eq_true rfl) (fun u1 f2 => ?_)
  cases (show u1 = (V.str ((a_tree_here).1)) from f2)
  obtain ⟨t13, e14, hm⟩ := bd_some hm
  refine rd_c <| rd_S0 <| rd_b ?_
  refine and_j (fun c H' => c = t13.1 ∧ ∃ F', Sx (fun a => a = p_pool_here) F0 H0 F' H' ∧ Ow (fun a => a = p_pool_here) H0 F' H' p_pool_here (.lst [V.int t13.2.1, V.int t13.2.2])) ?_ ?_ ?_
  ·
   intro b15 Q16 q17
   have e14 := if_t e14 b15
   have S18 : Sx (fun a => a = p_pool_here) _ _ _ _ := Sx.refl S.sub (fun a z => by rw [z, w_pool_here.at_]; exact (fun h => nomatch h))
   have w19 : Ow (fun a => a = p_pool_here) H0 _ _ _ _ := ⟨w_pool_here.fr, w_pool_here.at_, .inr (rfl)⟩
   obtain ⟨t20, e21, e14⟩ := bd_some e14
   refine rd_test <| rd_op <| rd_call <| rd_cons <| rd_v rfl <| rd_cons <| rd_c <| rd_nil ?_
   refine ⟨F0, _, _, _, t20, rfl, S18.sub, w19.arg, e21, fun v25 F22 H23 c24 w27 f26 => ?_⟩
   have S28 := S18.call1 c24 w19
   have f_tree_here := f_tree_here.up c24
   have w29 := w19.back w27
   cases (show v25 = (V.int (t20.1)) from f26)
   cases e14
   refine rd_c <| rd_I0 <| rd_b ?_
   exact q17 _ _ ⟨rfl, F22, S28, w29⟩
  ·
   intro b15
   have e14 := if_f e14 b15
   cases e14
   have S30 : Sx (fun a => a = p_pool_here) _ _ _ _ := Sx.refl S.sub (fun a z => by rw [z, w_pool_here.at_]; exact (fun h => nomatch h))
   have w31 : Ow (fun a => a = p_pool_here) H0 _ _ _ _ := ⟨w_pool_here.fr, w_pool_here.at_, .inr (rfl)⟩
   exact ⟨rfl, F0, S30, w31⟩
  rintro b35 H33 ⟨rfl, F32, c34, w36⟩
  have S37 := S.call1 c34 w_pool_here
  have f_tree_here := f_tree_here.up c34
  have w38 : Ow (fun a => a = p_pool_here) H0 _ _ _ _ := ⟨w36.fr, w36.at_, w_pool_here.mine⟩
  refine if_b hm (fun b39 hm => ?_) (fun b39 hm => ?_)
  ·
   refine rd_ret <| rd_call <| rd_cons <| rd_v rfl <| rd_cons <| rd_op <| rd_v rfl <| rd_c ?_
   refine rd_xLr (i := 2) S37 f_tree_here (raS (raS ra1)) (fun _ _ _ _ r => by obtain ⟨u0, s_u0, rfl, _, u1, s_u1, rfl, _, u2, rfl, _⟩ := r; exact Nat.le_of_ble_eq_true rfl) (fun u40 f41 => ?_)
   have f41 : (qL qS).r K F32 u40 (a_tree_here).2.2 := f41
   obtain ⟨t42, e43, hm⟩ := bd_some hm
   refine rd_nil ?_
   refine ⟨F32, _, _, _, _, t42, rfl, S37.sub, w38.arg, f41, e43, fun v47 F44 H45 c46 w49 f48 => ?_⟩
   have S50 := S37.call1 c46 w38
   have f_tree_here := f_tree_here.up c46
   have w51 := w38.back w49
   cases (show v47 = (V.str (t42.1)) from f48)
   cases hm
   exact hQ _ _ _ S50 w51 rfl
  ·
   refine rd_next <| rd_seq <| rd_ifS <| rd_and <| rd_test <| rd_op <| rd_op <| rd_v rfl <| rd_c ?_
   refine rd_xLr (i := 0) S37 f_tree_here ra0 (fun _ _ _ _ r => by obtain ⟨u0, s_u0, rfl, _, u1, s_u1, rfl, _, u2, rfl, _⟩ := r; exact Nat.le_of_ble_eq_true rfl) (fun u52 f53 => ?_)
   cases (show u52 = (V.str ((a_tree_here).1)) from f53)
   obtain ⟨t56, e57, hm⟩ := bd_some hm
   refine rd_c <| rd_S0 <| rd_b ?_
   refine and_j (fun c H' => c = t56 ∧ ∃ F', Sx P0 F32 H33 F' H') ?_ ?_ ?_
   ·
    intro b58 Q59 q60
    have e57 := if_t e57 b58
    have S61 := Sx.refl0 S37.sub
    refine rd_test <| rd_op <| rd_cb <| rd_cons <| rd_op <| rd_v rfl <| rd_c ?_
    refine rd_xLr (i := 2) S61 f_tree_here (raS (raS ra1)) (fun _ _ _ _ r => by obtain ⟨u0, s_u0, rfl, _, u1, s_u1, rfl, _, u2, rfl, _⟩ := r; exact Nat.le_of_ble_eq_true rfl) (fun u62 f63 => ?_)
    have f63 : (qL qS).r K F32 u62 (a_tree_here).2.2 := f63
    cases e57
    refine rd_nil ?_
    refine rd_lenQ (S61.l f63).r.q ?_
    refine rd_c <| rd_I0 <| rd_b ?_
    exact q60 _ _ ⟨rfl, F32, S61⟩
   ·
    intro b58
    have e57 := if_f e57 b58
    cases e57
    have S64 := Sx.refl0 S37.sub
    exact ⟨rfl, F32, S64⟩
   rintro b68 H66 ⟨rfl, F65, c67⟩
   have S69 := S37.call0 c67
   have f_tree_here := f_tree_here.up c67
   have w38 := w38.call0 c67
   refine if_b hm (fun b70 hm => ?_) (fun b70 hm => ?_)
   ·
    refine rd_ret <| rd_op <| rd_op <| rd_op <| rd_op <| rd_v rfl <| rd_c ?_
    refine rd_xLr (i := 1) S69 f_tree_here (raS ra0) (fun _ _ _ _ r => by obtain ⟨u0, s_u0, rfl, _, u1, s_u1, rfl, _, u2, rfl, _⟩ := r; exact Nat.le_of_ble_eq_true rfl) (fun u71 f72 => ?_)
    have f72 : (qL qS).r K F65 u71 (a_tree_here).2.1 := f72
    obtain ⟨t73, e74, hm⟩ := bd_some hm
    refine rd_c ?_
    refine rd_ixL (S69.l f72).r e74 (fun u75 f76 => ?_)
    cases (show u75 = (V.str (t73)) from f76)
    obtain ⟨t77, e78, hm⟩ := bd_some hm
    refine rd_op <| rd_call <| rd_cons <| rd_v rfl <| rd_nil ?_
    refine ⟨F65, _, _, t77, rfl, S69.sub, w38.arg, e78, fun v82 F79 H80 c81 w84 f83 => ?_⟩
    have S85 := S69.call1 c81 w38
    have f_tree_here := f_tree_here.up c81
    have w86 := w38.back w84
    cases (show v82 = (V.str (t77.1)) from f83)
    obtain ⟨t87, e88, hm⟩ := bd_some hm
    refine rd_call <| rd_cons <| rd_v rfl <| rd_cons <| rd_c <| rd_nil ?_
    refine ⟨F79, _, _, _, t87, rfl, S85.sub, w86.arg, e88, fun v92 F89 H90 c91 w94 f93 => ?_⟩
    have S95 := S85.call1 c91 w86
    have f_tree_here := f_tree_here.up c91
    have w96 := w86.back w94
    cases (show v92 = (V.int (t87.1)) from f93)
    obtain ⟨g97, hm⟩ := gd_some hm
    obtain ⟨g98, hm⟩ := gd_some hm
    refine rd_repS g97 ?_
    refine rd_catS g98 ?_
    refine rd_op <| rd_op <| rd_v rfl <| rd_c ?_
    refine rd_xLr (i := 2) S95 f_tree_here (raS (raS ra1)) (fun _ _ _ _ r => by obtain ⟨u0, s_u0, rfl, _, u1, s_u1, rfl, _, u2, rfl, _⟩ := r; exact Nat.le_of_ble_eq_true rfl) (fun u99 f100 => ?_)
    have f100 : (qL qS).r K F89 u99 (a_tree_here).2.2 := f100
    obtain ⟨t101, e102, hm⟩ := bd_some hm
    refine rd_c ?_
    refine rd_ixL (S95.l f100).r e102 (fun u103 f104 => ?_)
    cases (show u103 = (V.str (t101)) from f104)
    obtain ⟨g105, hm⟩ := gd_some hm
    cases hm
    refine rd_catS g105 ?_
    exact hQ _ _ _ S95 w96 rfl
   ·
    refine rd_next <| rd_ret <| rd_call <| rd_cons <| rd_v rfl <| rd_cons <| rd_op <| rd_v rfl <| rd_c ?_
    refine rd_xLr (i := 1) S69 f_tree_here (raS ra0) (fun _ _ _ _ r => by obtain ⟨u0, s_u0, rfl, _, u1, s_u1, rfl, _, u2, rfl, _⟩ := r; exact Nat.le_of_ble_eq_true rfl) (fun u106 f107 => ?_)
    have f107 : (qL qS).r K F65 u106 (a_tree_here).2.1 := f107
    obtain ⟨t108, e109, hm⟩ := bd_some hm
    refine rd_nil ?_
    refine ⟨F65, _, _, _, _, t108, rfl, S69.sub, w38.arg, f107, e109, fun v113 F110 H111 c112 w115 f114 => ?_⟩
    have S116 := S69.call1 c112 w38
    have f_tree_here := f_tree_here.up c112
    have w117 := w38.back w115
    cases (show v113 = (V.str (t108.1)) from f114)
    cases hm
    exact hQ _ _ _ S116 w117 rfl
def sp_law_row (K : PySem.W.Frag) : Sp := fun vs H Q _ => ∃ (F : Hp) (p_pool_here : Addr) (a_pool_here : Int × Int) (v_rule_here : V) (a_rule_here : τ1ₓ) (r : (Str × (Int × Int))), vs = [.ref p_pool_here, v_rule_here] ∧ Same F H ∧ Ow (fun a => a = p_pool_here) H F H p_pool_here (.lst [.int a_pool_here.1, .int a_pool_here.2]) ∧ (qLr τ2ₓ).r K F v_rule_here a_rule_here ∧ m_law_row a_pool_here a_rule_here = some r ∧ ∀ v F' H', Sx (fun a => a = p_pool_here) F H F' H' → Ow (fun a => a = p_pool_here) H F' H' p_pool_here (.lst [.int r.2.1, .int r.2.2]) → qS.r K F' v r.1 → Q v H'
theorem sc_law_row : FnScope ["_law_pool_here", "_law_rule_here", "_law_trees", "_law_at"] ["_law_pool_here", "_law_rule_here"] (defScope s_law_row) := ⟨rfl, rfl, rfl, by decide +kernel, rfl, by decide +kernel, by decide +kernel⟩
theorem bn_law_row (T : Tx P K mg) : Binds K (fdOf K ("_law_row", none)) ["_law_pool_here", "_law_rule_here"] [] := FunD.bindsN T.F_law_row fun _ _ _ _ _ _ us hl => match us, hl with | [_, _], _ => rfl
theorem ok_law_row (T : Tx P K mg) : FnOk P w K mg base CX0 5 (He.ga K "_law_row") (fdOf K ("_law_row", none)) ["_law_pool_here", "_law_rule_here"] (sp_law_row K) := by
 refine FunD.ok T.F_law_row sc_law_row (fun vs H0 Q E h => ?_) (fun cdv A outer s H0 vs Q E hr h => ?_)
 ·
  obtain ⟨_, _, _, _, _, _, rfl, _⟩ := h
  rfl
 ·
  obtain ⟨F0, p_pool_here, a_pool_here, v_rule_here, a_rule_here, r, rfl, hE, w_pool_here, f_rule_here, hm, hQ⟩ := h
  refine ⟨_, PSs.nox ((pss_cons (ps_set (i := 2) sc_law_row.nd rfl (dk rfl) (pe_op op_cat (pe_ix (r := rIxL K) ix_list (pv 1) pe_int (fun _ _ => rfl)) (pe_ix (r := rIxL K) ix_list (pv 1) pe_int (fun _ _ => rfl)))) (pss_cons (ps_set (i := 3) sc_law_row.nd rfl (dk rfl) (pe_call (ok_law_take T) (hr.mono (by decide)) (by rfl) T.g_law_take T.F_law_take.kp (bn_law_take T) .nil pass0 (pa_cons (pv 0) (pa_cons (pe_op op_add (pe_callB (r := rLenQ K) cr_lenQ (by rfl) T.n_len (by decide +kernel) (pa_cons (pv 2) pa_nil)) pe_int) pa_nil)))) (pss_cons (ps_if (pt_cmpR op_lt (pv 3) (pe_callB (r := rLenQ K) cr_lenQ (by rfl) T.n_len (by decide +kernel) (pa_cons (pv 2) pa_nil)) (nomark _)) (pss_one (ps_ret (pe_call (ok_law_written T) (hr.mono (by decide)) (by rfl) T.g_law_written T.F_law_written.kp (bn_law_written T) .nil pass0 (pa_cons (pv 0) (pa_cons (pe_ix (r := rIxL K) ix_list (pv 2) (pv 3) (fun _ _ => rfl)) pa_nil))))) pss_nil) (pss_one (ps_ret (pe_call (ok_law_line T) (hr.mono (by decide)) (by rfl) T.g_law_line T.F_law_line.kp (bn_law_line T) .nil pass0 (pa_cons (pv 0) (pa_cons (pe_call (ok_law_parts T) (hr.mono (by decide)) (by rfl) T.g_law_parts T.F_law_parts.kp (bn_law_parts T) .nil pass0 (pa_cons (pv 0) pa_nil)) pa_nil))))))))), ?_⟩
  have S : Sx (fun a => a = p_pool_here) F0 H0 F0 H0 := Sx.refl hE (live1 w_pool_here)
  unfold m_law_row at hm
  refine rd_seq <| rd_asg <| rd_op <| rd_op <| rd_v rfl <| rd_c ?_
  refine rd_xLr (i := 0) S f_rule_here ra0 (fun _ _ _ _ r => by obtain ⟨u0, s_u0, rfl, _, u1, s_u1, rfl, _, u2, s_u2, rfl, _, u3, s_u3, rfl, _, u4, s_u4, rfl, _, u5, rfl, _⟩ := r; exact Nat.le_of_ble_eq_true rfl) (fun u1 f2 => ?_)
  have f2 : (qL τ0ₓ).r K F0 u1 (a_rule_here).1 := f2
  refine rd_op <| rd_v rfl <| rd_c ?_
  refine rd_xLr (i := 1) S f_rule_here (raS ra0) (fun _ _ _ _ r => by obtain ⟨u0, s_u0, rfl, _, u1, s_u1, rfl, _, u2, s_u2, rfl, _, u3, s_u3, rfl, _, u4, s_u4, rfl, _, u5, rfl, _⟩ := r; exact Nat.le_of_ble_eq_true rfl) (fun u3 f4 => ?_)
  have f4 : (qL τ0ₓ).r K F0 u3 (a_rule_here).2.1 := f4
  obtain ⟨g5, hm⟩ := gd_some hm
  refine rd_cat (S.l f2) (S.l f4) g5 ?_
  refine alL' S (fun v6 F7 H8 c9 f10 => ?_)
  have S11 := S.call0 c9
  have f_rule_here := f_rule_here.up c9
  have w_pool_here := w_pool_here.call0 c9
  obtain ⟨t12, e13, hm⟩ := bd_some hm
  refine rd_gn <| rd_seq <| rd_asg <| rd_call <| rd_cons <| rd_v rfl <| rd_cons <| rd_op <| rd_cb <| rd_cons <| rd_v rfl <| rd_nil ?_
  refine rd_lenQ (S11.l f10).r.q ?_
  refine rd_c <| rd_I0 <| rd_nil ?_
  refine ⟨F7, _, _, _, t12, rfl, S11.sub, w_pool_here.arg, e13, fun v17 F14 H15 c16 w19 f18 => ?_⟩
  have S20 := S11.call1 c16 w_pool_here
  obtain ⟨f_rule_here, f10⟩ := up2 f_rule_here f10 c16
  have w21 := w_pool_here.back w19
  cases (show v17 = (V.int (t12.1)) from f18)
  refine rd_gn <| rd_seq <| rd_ifS <| rd_test <| rd_op <| rd_v rfl <| rd_cb <| rd_cons <| rd_v rfl <| rd_nil ?_
  refine rd_lenQ (S20.l f10).r.q ?_
  refine rd_I0 <| rd_b ?_
  refine if_b hm (fun b22 hm => ?_) (fun b22 hm => ?_)
  ·
   obtain ⟨t23, e24, hm⟩ := bd_some hm
   refine rd_ret <| rd_call <| rd_cons <| rd_v rfl <| rd_cons <| rd_op <| rd_v rfl <| rd_v rfl ?_
   refine rd_ixL (S20.l f10).r e24 (fun u25 f26 => ?_)
   obtain ⟨t27, e28, hm⟩ := bd_some hm
   refine rd_nil ?_
   refine ⟨F14, _, _, _, _, t27, rfl, S20.sub, w21.arg, f26, e28, fun v32 F29 H30 c31 w34 f33 => ?_⟩
   have S35 := S20.call1 c31 w21
   obtain ⟨f_rule_here, f10⟩ := up2 f_rule_here f10 c31
   have w36 := w21.back w34
   cases (show v32 = (V.str (t27.1)) from f33)
   cases hm
   exact hQ _ _ _ S35 w36 rfl
  ·
   obtain ⟨t37, e38, hm⟩ := bd_some hm
   refine rd_next <| rd_ret <| rd_call <| rd_cons <| rd_v rfl <| rd_cons <| rd_call <| rd_cons <| rd_v rfl <| rd_nil ?_
   refine ⟨F14, _, _, t37, rfl, S20.sub, w21.arg, e38, fun v42 F39 H40 c41 w44 f43 => ?_⟩
   have S45 := S20.call1 c41 w21
   obtain ⟨f_rule_here, f10⟩ := up2 f_rule_here f10 c41
   have w46 := w21.back w44
   obtain ⟨t47, e48, hm⟩ := bd_some hm
   refine rd_nil ?_
   refine ⟨F39, _, _, _, _, t47, rfl, S45.sub, w46.arg, f43, e48, fun v52 F49 H50 c51 w54 f53 => ?_⟩
   have S55 := S45.call1 c51 w46
   obtain ⟨f_rule_here, f10⟩ := up2 f_rule_here f10 c51
   have w56 := w46.back w54
   cases (show v52 = (V.str (t47.1)) from f53)
   cases hm
   exact hQ _ _ _ S55 w56 rfl
def sp_Form_holds (K : PySem.W.Frag) : Sp := fun vs H Q _ => ∃ (F : Hp) (v_self : V) (a_self : (List Str)) (v_truths : V) (a_truths : (List Bool)) (r : Bool), vs = [v_self, v_truths] ∧ Same F H ∧ qForm.r K F v_self a_self ∧ (qL qB).r K F v_truths a_truths ∧ m_Form_holds a_self a_truths = some r ∧ ∀ v F' H', Sx P0 F H F' H' → qB.r K F' v r → Q v H'
theorem sc_Form_holds : FnScope ["self", "truths"] ["self", "truths"] (defScope s_Form_holds) := ⟨rfl, rfl, rfl, by decide +kernel, rfl, by decide +kernel, by decide +kernel⟩
theorem bn_Form_holds (T : Tx P K mg) : Binds K (fdOf K ("Form", some "holds")) ["self", "truths"] [] := FunD.bindsN T.F_Form_holds fun _ _ _ _ _ _ us hl => match us, hl with | [_, _], _ => rfl
theorem ok_Form_holds (T : Tx P K mg) : FnOk P w K mg base CX0 1 (He.fAd K ("Form", some "holds")) (fdOf K ("Form", some "holds")) ["self", "truths"] (sp_Form_holds K) := by
 refine FunD.ok T.F_Form_holds sc_Form_holds (fun vs H0 Q E h => ?_) (fun cdv A outer s H0 vs Q E hr h => ?_)
 ·
  obtain ⟨_, _, _, _, _, _, rfl, _⟩ := h
  rfl
 ·
  obtain ⟨F0, v_self, a_self, v_truths, a_truths, r, rfl, hE, f_self, f_truths, hm, hQ⟩ := h
  refine ⟨_, PSs.nox ((pss_one (ps_ret (pe_ix (r := rIxL K) ix_list (pv 1) pe_int (fun _ _ => rfl))))), ?_⟩
  have S : Sx P0 F0 H0 F0 H0 := Sx.refl0 hE
  unfold m_Form_holds at hm
  obtain ⟨t1, e2, hm⟩ := bd_some hm
  refine rd_ret <| rd_op <| rd_v rfl <| rd_c ?_
  refine rd_ixL (S.l f_truths).r e2 (fun u3 f4 => ?_)
  cases (show u3 = (V.bl (t1)) from f4)
  cases hm
  exact hQ _ _ _ S rfl
theorem okv_Form_holds (T : Tx P K mg) (n : Nat) : FnOk P w K mg base CX0 (n + 1) (He.fAd K ("Form", some "holds")) (fdOf K ("Form", some "holds")) ["self", "truths"] (sp_pat_holds n "Form" K) := by
 refine ((ok_Form_holds T).mono (by omega)).imp fun vs H0 Q E h => ?_
 obtain ⟨F0, v, a, vt, t, r, rfl, hE, f, hc, ft, hm, hQ⟩ := h
 obtain ⟨h1, h2, h3⟩ := patN_some hm
 cases a with
  | both _ _ => exact absurd (show ("Both" : Str) = "Form" from hc) (by decide)
  | either _ _ => exact absurd (show ("Either" : Str) = "Form" from hc) (by decide)
  | form a =>
  exact ⟨F0, v, a, vt, t, r, rfl, hE, f, ft, (show ((atI t 0).bind fun t1 => some t1) = some r by rw [show atI t 0 = some r from h3]; rfl), hQ⟩
theorem sc_Both_holds : FnScope ["self", "truths", "middle"] ["self", "truths"] (defScope s_Both_holds) := ⟨rfl, rfl, rfl, by decide +kernel, rfl, by decide +kernel, by decide +kernel⟩
theorem bn_Both_holds (T : Tx P K mg) : Binds K (fdOf K ("Both", some "holds")) ["self", "truths"] [] := FunD.bindsN T.F_Both_holds fun _ _ _ _ _ _ us hl => match us, hl with | [_, _], _ => rfl
theorem okv_Both_holds (T : Tx P K mg) {n : Nat} (V : VM P w K mg base (n + 1) "holds" ["self", "truths"] (fun x => sp_pat_holds n x K)) : FnOk P w K mg base CX0 (n + 2) (He.fAd K ("Both", some "holds")) (fdOf K ("Both", some "holds")) ["self", "truths"] (sp_pat_holds (n + 1) "Both" K) := by
 have VF : VM P w K mg base (n + 1) "forms" ["self"] (fun x => sp_pat_forms n x K) := vm_forms T n
 refine FunD.ok T.F_Both_holds sc_Both_holds (fun vs H0 Q E h => ?_) (fun cdv A outer s H0 vs Q E hr h => ?_)
 ·
  obtain ⟨_, _, _, _, _, _, rfl, _⟩ := h
  rfl
 ·
  obtain ⟨F0, v, a, vt, t, r, rfl, hE, f, hc, ft, hm, hQ⟩ := h
  obtain ⟨h1, h2, h3⟩ := patN_some hm
  cases a with
  | form _ => exact absurd (show ("Form" : Str) = "Both" from hc) (by decide)
  | either _ _ => exact absurd (show ("Either" : Str) = "Both" from hc) (by decide)
  | both l r' =>
  obtain ⟨p, dx, u, w', rfl, e2, rl, rr⟩ := (show qPatR K F0 v (.both l r') from f)
  replace rl : qPat.r K F0 u l := rl
  replace rr : qPat.r K F0 w' r' := rr
  have hl : l.ht ≤ n ∧ r'.ht ≤ n := by
   have h1 : max l.ht r'.ht + 1 ≤ n + 1 := h1
   omega
  have hf : l.forms.length + r'.forms.length ≤ 16 := by
   have h2 : (l.forms ++ r'.forms).length ≤ 16 := h2
   rw [List.length_append] at h2
   exact h2
  obtain ⟨b, eb, h3⟩ := bd_some (show ((l.holds (cut t none (some (l.forms.length : Int)))).bind fun b => if b = true then r'.holds (cut t (some (l.forms.length : Int)) none) else some false) = some r from h3)
  refine ⟨_, PSs.nox (pss_cons (ps_set (i := 2) sc_Both_holds.nd rfl (by first | exact Or.inl rfl | exact Or.inr rfl) (pe_callB (r := rLenQ K) cr_lenQ (by rfl) T.n_len (by decide +kernel) (pa_cons (pe_methV0 (E := E0) (pe_fldK (pv 0) rfl)) pa_nil))) (pss_one (ps_ret (pe_and (pe_methV (E := E0) (pe_fldK (pv 0) rfl) (pa_cons (pe_slice (r := rSlL K) sl_list (pv 1) po_none (po_some (pv 2))) pa_nil)) (pe_one (pe_methV (E := E0) (pe_fldK (pv 0) rfl) (pa_cons (pe_slice (r := rSlL K) sl_list (pv 1) (po_some (pv 2)) po_none) pa_nil))))))), ?_⟩
  have S : Sx P0 F0 H0 F0 H0 := Sx.refl0 hE
  refine rd_seq <| rd_asg <| rd_cb <| rd_cons ?_
  refine rd_methV ?_
  refine rd_fld <| rd_v rfl ?_
  refine fd_at (S.sub _ _ e2) T.c_Both T.na_Both_left (by rfl) ?_
  refine VF.call (hr.mono (by omega)) S rl (kt := ?_)
  refine rd_nil ?_
  refine ⟨F0, _, _, _, rfl, S.sub, rl, rfl, patN_of hl.1 (by omega), fun v1 F1 H1 c1 f1 => ?_⟩
  have S1 := S.call0 c1
  obtain ⟨rr, rl, ft⟩ := up3 rr rl ft c1
  refine rd_nil ?_
  refine rd_lenQ (S1.l f1).r.q ?_
  refine rd_gn <| rd_ret <| rd_andV ?_
  refine rd_methV ?_
  refine rd_fld <| rd_v rfl ?_
  refine fd_at (S1.sub _ _ (S1.le _ _ e2)) T.c_Both T.na_Both_left (by rfl) ?_
  refine V.call (hr.mono (by omega)) S1 rl (kt := ?_)
  refine rd_cons ?_
  refine rd_sl ?_
  refine rd_v rfl ?_
  refine rd_np ?_
  refine rd_pt ?_
  refine rd_v rfl ?_
  refine rd_i ?_
  refine rd_slL (S1.l ft).r ?_
  refine alL' S1 (fun v2 F2 H2 c2 f2 => ?_)
  have S2 := S1.call0 c2
  obtain ⟨rl, rr, ft⟩ := up3 rl rr ft c2
  refine rd_nil ?_
  refine ⟨F2, _, _, _, _, _, rfl, S2.sub, rl, rfl, f2, (patN_of hl.1 (by omega)).trans eb, fun v4 F4 H4 c4 f4 => ?_⟩
  cases (show v4 = .bl b from f4)
  have S4 := S2.call0 c4
  obtain ⟨rr, ft⟩ := up2 rr ft c4
  refine rd_b ?_
  cases b with
  | true =>
   refine if_tt ?_
   refine rd_methV ?_
   refine rd_fld <| rd_v rfl ?_
   refine fd_at (S4.sub _ _ (S4.le _ _ e2)) T.c_Both T.na_Both_right (by rfl) ?_
   refine V.call (hr.mono (by omega)) S4 rr (kt := ?_)
   refine rd_cons ?_
   refine rd_sl ?_
   refine rd_v rfl ?_
   refine rd_pt ?_
   refine rd_v rfl ?_
   refine rd_i ?_
   refine rd_np ?_
   refine rd_slL (S4.l ft).r ?_
   refine alL' S4 (fun v5 F5 H5 c5 f5 => ?_)
   have S5 := S4.call0 c5
   have rr := rr.up c5
   refine rd_nil ?_
   refine ⟨F5, _, _, _, _, _, rfl, S5.sub, rr, rfl, f5, (patN_of hl.2 (by omega)).trans h3, fun v6 F6 H6 c6 f6 => ?_⟩
   cases (show v6 = .bl r from f6)
   exact hQ _ _ _ (S5.call0 c6) rfl
  | false =>
   cases (show some false = some r from h3)
   exact hQ _ _ _ S4 rfl
theorem sc_Either_holds : FnScope ["self", "truths", "middle"] ["self", "truths"] (defScope s_Either_holds) := ⟨rfl, rfl, rfl, by decide +kernel, rfl, by decide +kernel, by decide +kernel⟩
theorem bn_Either_holds (T : Tx P K mg) : Binds K (fdOf K ("Either", some "holds")) ["self", "truths"] [] := FunD.bindsN T.F_Either_holds fun _ _ _ _ _ _ us hl => match us, hl with | [_, _], _ => rfl
theorem okv_Either_holds (T : Tx P K mg) {n : Nat} (V : VM P w K mg base (n + 1) "holds" ["self", "truths"] (fun x => sp_pat_holds n x K)) : FnOk P w K mg base CX0 (n + 2) (He.fAd K ("Either", some "holds")) (fdOf K ("Either", some "holds")) ["self", "truths"] (sp_pat_holds (n + 1) "Either" K) := by
 have VF : VM P w K mg base (n + 1) "forms" ["self"] (fun x => sp_pat_forms n x K) := vm_forms T n
 refine FunD.ok T.F_Either_holds sc_Either_holds (fun vs H0 Q E h => ?_) (fun cdv A outer s H0 vs Q E hr h => ?_)
 ·
  obtain ⟨_, _, _, _, _, _, rfl, _⟩ := h
  rfl
 ·
  obtain ⟨F0, v, a, vt, t, r, rfl, hE, f, hc, ft, hm, hQ⟩ := h
  obtain ⟨h1, h2, h3⟩ := patN_some hm
  cases a with
  | form _ => exact absurd (show ("Form" : Str) = "Either" from hc) (by decide)
  | both _ _ => exact absurd (show ("Both" : Str) = "Either" from hc) (by decide)
  | either l r' =>
  obtain ⟨p, dx, u, w', rfl, e2, rl, rr⟩ := (show qPatR K F0 v (.either l r') from f)
  replace rl : qPat.r K F0 u l := rl
  replace rr : qPat.r K F0 w' r' := rr
  have hl : l.ht ≤ n ∧ r'.ht ≤ n := by
   have h1 : max l.ht r'.ht + 1 ≤ n + 1 := h1
   omega
  have hf : l.forms.length + r'.forms.length ≤ 16 := by
   have h2 : (l.forms ++ r'.forms).length ≤ 16 := h2
   rw [List.length_append] at h2
   exact h2
  obtain ⟨b, eb, h3⟩ := bd_some (show ((l.holds (cut t none (some (l.forms.length : Int)))).bind fun b => if b = true then some true else r'.holds (cut t (some (l.forms.length : Int)) none)) = some r from h3)
  refine ⟨_, PSs.nox (pss_cons (ps_set (i := 2) sc_Either_holds.nd rfl (by first | exact Or.inl rfl | exact Or.inr rfl) (pe_callB (r := rLenQ K) cr_lenQ (by rfl) T.n_len (by decide +kernel) (pa_cons (pe_methV0 (E := E0) (pe_fldK (pv 0) rfl)) pa_nil))) (pss_one (ps_ret (pe_or (pe_methV (E := E0) (pe_fldK (pv 0) rfl) (pa_cons (pe_slice (r := rSlL K) sl_list (pv 1) po_none (po_some (pv 2))) pa_nil)) (pe_one (pe_methV (E := E0) (pe_fldK (pv 0) rfl) (pa_cons (pe_slice (r := rSlL K) sl_list (pv 1) (po_some (pv 2)) po_none) pa_nil))))))), ?_⟩
  have S : Sx P0 F0 H0 F0 H0 := Sx.refl0 hE
  refine rd_seq <| rd_asg <| rd_cb <| rd_cons ?_
  refine rd_methV ?_
  refine rd_fld <| rd_v rfl ?_
  refine fd_at (S.sub _ _ e2) T.c_Either T.na_Either_left (by rfl) ?_
  refine VF.call (hr.mono (by omega)) S rl (kt := ?_)
  refine rd_nil ?_
  refine ⟨F0, _, _, _, rfl, S.sub, rl, rfl, patN_of hl.1 (by omega), fun v1 F1 H1 c1 f1 => ?_⟩
  have S1 := S.call0 c1
  obtain ⟨rr, rl, ft⟩ := up3 rr rl ft c1
  refine rd_nil ?_
  refine rd_lenQ (S1.l f1).r.q ?_
  refine rd_gn <| rd_ret <| rd_orV ?_
  refine rd_methV ?_
  refine rd_fld <| rd_v rfl ?_
  refine fd_at (S1.sub _ _ (S1.le _ _ e2)) T.c_Either T.na_Either_left (by rfl) ?_
  refine V.call (hr.mono (by omega)) S1 rl (kt := ?_)
  refine rd_cons ?_
  refine rd_sl ?_
  refine rd_v rfl ?_
  refine rd_np ?_
  refine rd_pt ?_
  refine rd_v rfl ?_
  refine rd_i ?_
  refine rd_slL (S1.l ft).r ?_
  refine alL' S1 (fun v2 F2 H2 c2 f2 => ?_)
  have S2 := S1.call0 c2
  obtain ⟨rl, rr, ft⟩ := up3 rl rr ft c2
  refine rd_nil ?_
  refine ⟨F2, _, _, _, _, _, rfl, S2.sub, rl, rfl, f2, (patN_of hl.1 (by omega)).trans eb, fun v4 F4 H4 c4 f4 => ?_⟩
  cases (show v4 = .bl b from f4)
  have S4 := S2.call0 c4
  obtain ⟨rr, ft⟩ := up2 rr ft c4
  refine rd_b ?_
  cases b with
  | true =>
   cases (show some true = some r from h3)
   exact hQ _ _ _ S4 rfl
  | false =>
   refine if_ff ?_
   refine rd_methV ?_
   refine rd_fld <| rd_v rfl ?_
   refine fd_at (S4.sub _ _ (S4.le _ _ e2)) T.c_Either T.na_Either_right (by rfl) ?_
   refine V.call (hr.mono (by omega)) S4 rr (kt := ?_)
   refine rd_cons ?_
   refine rd_sl ?_
   refine rd_v rfl ?_
   refine rd_pt ?_
   refine rd_v rfl ?_
   refine rd_i ?_
   refine rd_np ?_
   refine rd_slL (S4.l ft).r ?_
   refine alL' S4 (fun v5 F5 H5 c5 f5 => ?_)
   have S5 := S4.call0 c5
   have rr := rr.up c5
   refine rd_nil ?_
   refine ⟨F5, _, _, _, _, _, rfl, S5.sub, rr, rfl, f5, (patN_of hl.2 (by omega)).trans h3, fun v6 F6 H6 c6 f6 => ?_⟩
   cases (show v6 = .bl r from f6)
   exact hQ _ _ _ (S5.call0 c6) rfl
theorem okv_void_holds {C : Str} (hC : C = "Both" ∨ C = "Either") : FnOk P w K mg base CX0 1 (He.fAd K (C, some "holds")) (fdOf K (C, some "holds")) ["self", "truths"] (sp_pat_holds 0 C K) := by
 have no : ∀ vs H Q E, ¬ sp_pat_holds 0 C K vs H Q E := by
  intro vs H Q E h
  obtain ⟨_, _, a, _, _, _, _, _, _, hc, _, hm, _⟩ := h
  obtain ⟨h1, _, _⟩ := patN_some hm
  cases a with
  | form _ =>
   subst hc
   rcases hC with h | h
   ·
    exact absurd (show ("Form" : Str) = "Both" from h) (by decide)
   ·
    exact absurd (show ("Form" : Str) = "Either" from h) (by decide)
  | both l r => exact absurd (show max l.ht r.ht + 1 ≤ 0 from h1) (by omega)
  | either l r => exact absurd (show max l.ht r.ht + 1 ≤ 0 from h1) (by omega)
 exact ⟨fun vs H Q E h => absurd h (no vs H Q E), fun A outer s H args us vs Q E hr he hb hv h => absurd h (no vs H Q E)⟩
theorem vm_holds (T : Tx P K mg) : ∀ n, VM P w K mg base (n + 1) "holds" ["self", "truths"] (fun x => sp_pat_holds n x K)
 | 0 => ⟨fun x hx => by
  rcases hx with rfl | rfl | rfl
  ·
   exact ⟨T.c_Form, T.me_Form_holds, okv_Form_holds T 0, bn_Form_holds T⟩
  ·
   exact ⟨T.c_Both, T.me_Both_holds, okv_void_holds (.inl rfl), bn_Both_holds T⟩
  ·
   exact ⟨T.c_Either, T.me_Either_holds, okv_void_holds (.inr rfl), bn_Either_holds T⟩⟩
 | n + 1 => ⟨fun x hx => by
  have V := vm_holds T n
  rcases hx with rfl | rfl | rfl
  ·
   exact ⟨T.c_Form, T.me_Form_holds, okv_Form_holds T (n + 1), bn_Form_holds T⟩
  ·
   exact ⟨T.c_Both, T.me_Both_holds, okv_Both_holds T V, bn_Both_holds T⟩
  ·
   exact ⟨T.c_Either, T.me_Either_holds, okv_Either_holds T V, bn_Either_holds T⟩⟩
def sp_cells_of (K : PySem.W.Frag) : Sp := fun vs H Q _ => ∃ (F : Hp) (v_parts : V) (a_parts : (List Str)) (r : (List Str)), vs = [v_parts] ∧ Same F H ∧ (qQ qS).r K F v_parts a_parts ∧ m_cells_of a_parts = some r ∧ ∀ v F' H', Sx P0 F H F' H' → (qL qS).r K F' v r → Q v H'
theorem sc_cells_of : FnScope ["parts", "cells", "part"] ["parts"] (defScope s_cells_of) := ⟨rfl, rfl, rfl, by decide +kernel, rfl, by decide +kernel, by decide +kernel⟩
theorem bn_cells_of (T : Tx P K mg) : Binds K (fdOf K ("cells_of", none)) ["parts"] [] := FunD.bindsN T.F_cells_of fun _ _ _ _ _ _ us hl => match us, hl with | [_], _ => rfl
theorem ok_cells_of (T : Tx P K mg) : FnOk P w K mg base CX0 1 (He.ga K "cells_of") (fdOf K ("cells_of", none)) ["parts"] (sp_cells_of K) := by
 refine FunD.ok T.F_cells_of sc_cells_of (fun vs H0 Q E h => ?_) (fun cdv A outer s H0 vs Q E hr h => ?_)
 ·
  obtain ⟨_, _, _, _, rfl, _⟩ := h
  rfl
 ·
  obtain ⟨F0, v_parts, a_parts, r, rfl, hE, f_parts, hm, hQ⟩ := h
  refine ⟨_, PSs.nox ((pss_cons (ps_set (i := 1) sc_cells_of.nd rfl (dk rfl) (pe_lst pa_nil)) (pss_cons (ps_for PassesOwn.never rfl (pi_seq (pv 0)) (pg_name (i := 2) sc_cells_of.nd rfl (dk rfl)) (pss_one (ps_if (pt_cmpR (r := rIn K false) op_in_seq (pv 2) (pe_glob (v := V.ref (He.ga K "FREE_CELLS")) (by rfl) T.g_FREE_CELLS rfl) rfl) (pss_one (ps_expr (pe_bmK (K := K) PySem.F.plainAttrs_list PySem.F.slot_list_append PySem.F.type_list_append mt_append (pv 1) (pa_cons (pv 2) pa_nil)))) (pss_one (ps_expr (pe_bmK (K := K) PySem.F.plainAttrs_list PySem.F.slot_list_extend PySem.F.type_list_extend mt_extend (pv 1) (pa_cons (pe_callTy (cr_listS rfl) (by rfl) T.n_list (by decide +kernel) (pa_cons (pv 2) pa_nil)) pa_nil))))))) (pss_one (ps_ret (pv 1)))))), ?_⟩
  have S : Sx P0 F0 H0 F0 H0 := Sx.refl0 hE
  unfold m_cells_of at hm
  refine rd_seq <| rd_asg <| rd_lst <| rd_nil <| rd_lK rfl ?_
  refine al S (fun p1 H2 np3 c4 w5 => ?_)
  have z7 := S.free0 np3
  have S8 := S.call0 c4
  have f_parts := f_parts.up c4
  refine rd_gn <| rd_seq <| rd_for ?_
  refine rd_wSeq S8 f_parts (by intro _ k; exact rd_v rfl k) (fun J9 n10 G11 it12 fd13 ty14 hg15 => ?_)
  have r16 : Row qS K F0 [] ([] : List Str) := .nil
  obtain ⟨t17, e18, hm⟩ := bd_some hm
  refine rd_forS fd13 ty14 e18 (fun (s19 : (List Str)) σ H => ∃ (F : Hp) (o2 : Option V) (vs0 : List V), σ = [some v_parts, some (V.ref p1), o2] ∧ Sx (fun a => a = p1) F0 H2 F H ∧ Ow (fun a => a = p1) H2 F H p1 (.lst vs0) ∧ Row qS K F vs0 s19) ?_ ?_ ?_ ?_
  ·
   rintro _ _ _ ⟨_, _, _, _, S20, _, _⟩
   exact (hg15 _ _ S20.le S20.sub)
  ·
   have S21 : Sx (fun a => a = p1) _ _ _ _ := Sx.refl S8.sub (fun a z => by rw [z, w5.at_]; exact (fun h => nomatch h))
   have w22 : Ow (fun a => a = p1) H2 _ _ _ _ := ⟨w5.fr, w5.at_, .inr (rfl)⟩
   exact ⟨F0, _, _, rfl, S21, w22, r16⟩
  ·
   rintro x23 v24 s25 c29 σ26 H27 f28 ⟨F30, o32, v33, rfl, S31, w34, r35⟩ hm38
   have f_parts := f_parts.up S31
   unfold m_cells_of_b1 at hm38
   cases (show v24 = (V.str (x23)) from f28)
   have f39 : (qT qS).r K F30 (.ref (He.ga K "FREE_CELLS")) (["<digits>", "<word>", "<any>"] : List Str) := T.q_FREE_CELLS _
   refine rd_gn <| rd_ifS <| rd_test <| rd_op <| rd_v rfl <| rd_c ?_
   refine rd_inS (S31.t f39).q ?_
   refine rd_b ?_
   refine if_b hm38 (fun b40 hm38 => ?_) (fun b40 hm38 => ?_)
   ·
    obtain ⟨g41, hm38⟩ := gd_some hm38
    refine rd_drop <| rd_bm <| rd_v rfl <| rd_ty w34.ty <| rd_cons <| rd_v rfl <| rd_nil ?_
    refine ap S31 w34 r35 g41 (fun H42 c43 w44 => ?_)
    have r45 := r35.snoc (show qS.r K F30 _ x23 from rfl)
    have S46 := S31.call1 c43 w34
    have f_parts := f_parts.up c43
    have r45 := Row.mono c43.le r45
    cases hm38
    exact ⟨F30, _, _, rfl, S46, w44, r45⟩
   ·
    obtain ⟨g47, hm38⟩ := gd_some hm38
    refine rd_drop <| rd_bm <| rd_v rfl <| rd_ty w34.ty <| rd_cons <| rd_cb <| rd_cons <| rd_v rfl <| rd_nil ?_
    refine rd_listS (K := K) (F := F30) g47 ?_
    refine alL' S31 (fun v48 F49 H50 c51 f52 => ?_)
    have S53 := S31.call0 c51
    have f_parts := f_parts.up c51
    have r35 := Row.mono c51.le r35
    have w34 := w34.call0 c51
    obtain ⟨g54, hm38⟩ := gd_some hm38
    refine rd_nil ?_
    refine ex' S53 w34 r35 (S53.l f52) g54 (fun us55 H56 c57 w58 r59 => ?_)
    have S60 := S53.call1 c57 w34
    have f_parts := f_parts.up c57
    have r59 := Row.mono c57.le r59
    cases hm38
    exact ⟨F49, _, _, rfl, S60, w58, r59⟩
  ·
   rintro σ61 H62 ⟨F63, o65, v66, rfl, S64, w67, r68⟩
   have S69 := S8.call1 S64 w5
   have f_parts := f_parts.up S64
   have w70 : Ow P0 H0 _ _ _ _ := ⟨w67.fr, w67.at_, w5.mine⟩
   obtain ⟨F71, S72, le73, f74, _, eq75⟩ := fz S69 w70 z7 r68
   have f_parts := (qQ qS).mono le73 f_parts
   cases hm
   refine rd_ret <| rd_v rfl ?_
   exact hQ _ _ _ S72 f74
def sp_closed (K : PySem.W.Frag) : Sp := fun vs H Q _ => ∃ (F : Hp) (v_cells : V) (a_cells : (List Str)) (v_positions : V) (a_positions : (List Int)) (r : (List Int)), vs = [v_cells, v_positions] ∧ Same F H ∧ (qL qS).r K F v_cells a_cells ∧ (qQ qI).r K F v_positions a_positions ∧ m_closed a_cells a_positions = some r ∧ ∀ v F' H', Sx P0 F H F' H' → (qT qI).r K F' v r → Q v H'
theorem sc_closed : FnScope ["cells", "positions", "found", "at"] ["cells", "positions"] (defScope s_closed) := ⟨rfl, rfl, rfl, by decide +kernel, rfl, by decide +kernel, by decide +kernel⟩
theorem bn_closed (T : Tx P K mg) : Binds K (fdOf K ("closed", none)) ["cells", "positions"] [] := FunD.bindsN T.F_closed fun _ _ _ _ _ _ us hl => match us, hl with | [_, _], _ => rfl
theorem ok_closed (T : Tx P K mg) : FnOk P w K mg base CX0 1 (He.ga K "closed") (fdOf K ("closed", none)) ["cells", "positions"] (sp_closed K) := by
 refine FunD.ok T.F_closed sc_closed (fun vs H0 Q E h => ?_) (fun cdv A outer s H0 vs Q E hr h => ?_)
 ·
  obtain ⟨_, _, _, _, _, _, rfl, _⟩ := h
  rfl
 ·
  obtain ⟨F0, v_cells, a_cells, v_positions, a_positions, r, rfl, hE, f_cells, f_positions, hm, hQ⟩ := h
  refine ⟨_, PSs.nox ((pss_cons (ps_set (i := 2) sc_closed.nd rfl (dk rfl) (pe_lst pa_nil)) (pss_cons (ps_for PassesOwn.never rfl (pi_range1 (by rfl) T.n_range (pa_cons (pe_op op_add (pe_callB (r := rLenQ K) cr_lenQ (by rfl) T.n_len (by decide +kernel) (pa_cons (pv 0) pa_nil)) pe_int) pa_nil)) (pg_name (i := 3) sc_closed.nd rfl (dk rfl)) (pss_one (ps_if (PW.pt (pw_or (pt_cmpR (r := rIn K false) op_in_seq (pv 3) (pv 1) rfl) (pw_or1 (PW.pt (pw_and (pt_cmpR op_gt (pv 3) pe_int (nomark _)) (pw_and (pt_cmpR op_eqS (pe_ix (r := rIxL K) ix_list (pv 0) (pe_op op_sub (pv 3) pe_int) (fun _ _ => rfl)) (pe_glob (v := V.str "<any>") (by rfl) (T.k_ANY_CELL.choose_spec) ⟨_, rfl⟩) (nomark _)) (pw_and1 (pt_cmpR (r := rIn K false) op_in_seq (pe_op op_sub (pv 3) pe_int) (pv 2) rfl)))))))) (pss_one (ps_expr (pe_bmK (K := K) PySem.F.plainAttrs_list PySem.F.slot_list_append PySem.F.type_list_append mt_append (pv 2) (pa_cons (pv 3) pa_nil)))) pss_nil))) (pss_one (ps_ret (pe_tupleOfK (K := K) rfl (by rfl) T.n_tuple (pv 2))))))), ?_⟩
  have S : Sx P0 F0 H0 F0 H0 := Sx.refl0 hE
  unfold m_closed at hm
  refine rd_seq <| rd_asg <| rd_lst <| rd_nil <| rd_lK rfl ?_
  refine al S (fun p1 H2 np3 c4 w5 => ?_)
  have z7 := S.free0 np3
  have S8 := S.call0 c4
  obtain ⟨f_cells, f_positions⟩ := up2 f_cells f_positions c4
  obtain ⟨g9, hm⟩ := gd_some hm
  refine rd_gn <| rd_seq <| rd_for ?_
  refine rd_iR1 ?_
  refine rd_cons <| rd_op <| rd_cb <| rd_cons <| rd_v rfl <| rd_nil ?_
  refine rd_lenQ (S8.l f_cells).r.q ?_
  refine rd_c <| rd_I0 <| rd_nil ?_
  refine rd_r1 g9 ?_
  have r10 : Row qI K F0 [] ([] : List Int) := .nil
  obtain ⟨t11, e12, hm⟩ := bd_some hm
  refine rd_forS feedsRg (typedR (K := K) (F := F0)) e12 (fun (s13 : (List Int)) σ H => ∃ (F : Hp) (o3 : Option V) (vs0 : List V), σ = [some v_cells, some v_positions, some (V.ref p1), o3] ∧ Sx (fun a => a = p1) F0 H2 F H ∧ Ow (fun a => a = p1) H2 F H p1 (.lst vs0) ∧ Row qI K F vs0 s13) ?_ ?_ ?_ ?_
  ·
   intro _ _ _ _; trivial
  ·
   have S15 : Sx (fun a => a = p1) _ _ _ _ := Sx.refl S8.sub (fun a z => by rw [z, w5.at_]; exact (fun h => nomatch h))
   have w16 : Ow (fun a => a = p1) H2 _ _ _ _ := ⟨w5.fr, w5.at_, .inr (rfl)⟩
   exact ⟨F0, _, _, rfl, S15, w16, r10⟩
  ·
   rintro x17 v18 s19 c23 σ20 H21 f22 ⟨F24, o26, v27, rfl, S25, w28, r29⟩ hm32
   obtain ⟨f_cells, f_positions⟩ := up2 f_cells f_positions S25
   unfold m_closed_b1 at hm32
   cases (show v18 = (V.int (x17)) from f22)
   obtain ⟨t53, e54, hm32⟩ := bd_some hm32
   refine rd_gn <| rd_ifS <| rd_or <| rd_test <| rd_op <| rd_v rfl <| rd_v rfl ?_
   refine rd_inI (S25.q f_positions) ?_
   refine rd_b ?_
   refine or_j (fun c H' => c = t53 ∧ ∃ F', Sx P0 F24 H21 F' H') ?_ ?_ ?_
   ·
    intro b55 Q56 q57
    have e54 := if_f e54 b55
    have S58 := Sx.refl0 S25.sub
    obtain ⟨t63, e64, e54⟩ := bd_some e54
    refine rd_and <| rd_test <| rd_op <| rd_v rfl <| rd_c <| rd_I0 <| rd_b ?_
    refine and_j (fun c H' => c = t63 ∧ ∃ F', Sx P0 F24 H21 F' H') ?_ ?_ ?_
    ·
     intro b65 Q66 q67
     have e64 := if_t e64 b65
     have S68 := Sx.refl0 S58.sub
     obtain ⟨t69, e70, e64⟩ := bd_some e64
     refine rd_and <| rd_test <| rd_op <| rd_op <| rd_v rfl <| rd_op <| rd_v rfl <| rd_c <| rd_I0 ?_
     refine rd_ixL (S68.l f_cells).r e70 (fun u71 f72 => ?_)
     cases (show u71 = (V.str (t69)) from f72)
     cases e64
     refine rd_c <| rd_S0 <| rd_b ?_
     refine and_p (by intro _ Q' q; refine rd_test ?_; refine rd_op ?_; refine rd_op ?_; refine rd_v rfl ?_; refine rd_c ?_; refine rd_I0 ?_; refine rd_v rfl ?_; refine rd_inI (w28.l r29).r.q ?_; refine rd_b ?_; exact q) ?_
     exact q67 _ _ ⟨rfl, F24, S68⟩
    ·
     intro b65
     have e64 := if_f e64 b65
     cases e64
     have S73 := Sx.refl0 S58.sub
     exact ⟨rfl, F24, S73⟩
    rintro b77 H75 ⟨rfl, F74, c76⟩
    have S78 := S58.call0 c76
    obtain ⟨f_cells, f_positions⟩ := up2 f_cells f_positions c76
    have r29 := Row.mono c76.le r29
    have w28 := w28.call0 c76
    cases e54
    exact q57 _ _ ⟨rfl, F74, S78⟩
   ·
    intro b55
    have e54 := if_t e54 b55
    cases e54
    have S79 := Sx.refl0 S25.sub
    exact ⟨rfl, F24, S79⟩
   rintro b83 H81 ⟨rfl, F80, c82⟩
   have S84 := S25.call0 c82
   obtain ⟨f_cells, f_positions⟩ := up2 f_cells f_positions c82
   have r29 := Row.mono c82.le r29
   have w28 := w28.call0 c82
   refine if_b hm32 (fun b85 hm32 => ?_) (fun b85 hm32 => ?_)
   ·
    obtain ⟨g86, hm32⟩ := gd_some hm32
    refine rd_drop <| rd_bm <| rd_v rfl <| rd_ty w28.ty <| rd_cons <| rd_v rfl <| rd_nil ?_
    refine ap S84 w28 r29 g86 (fun H87 c88 w89 => ?_)
    have r90 := r29.snoc (show qI.r K F80 _ x17 from rfl)
    have S91 := S84.call1 c88 w28
    obtain ⟨f_cells, f_positions⟩ := up2 f_cells f_positions c88
    have r90 := Row.mono c88.le r90
    cases hm32
    exact ⟨F80, _, _, rfl, S91, w89, r90⟩
   ·
    cases hm32
    refine rd_next ?_
    exact ⟨F80, _, _, rfl, S84, w28, r29⟩
  ·
   rintro σ92 H93 ⟨F94, o96, v97, rfl, S95, w98, r99⟩
   have S100 := S8.call1 S95 w5
   obtain ⟨f_cells, f_positions⟩ := up2 f_cells f_positions S95
   have w101 : Ow P0 H0 _ _ _ _ := ⟨w98.fr, w98.at_, w5.mine⟩
   refine rd_ret ?_
   refine rd_thn ?_
   refine rd_v rfl ?_
   refine rd_tuple (w101.l r99).r ?_
   refine alT' S100 (fun v102 F103 H104 c105 f106 => ?_)
   have S107 := S100.call0 c105
   obtain ⟨f_cells, f_positions⟩ := up2 f_cells f_positions c105
   have r99 := Row.mono c105.le r99
   have w101 := w101.call0 c105
   cases hm
   exact hQ _ _ _ S107 f106
def sp_started (K : PySem.W.Frag) : Sp := fun vs H Q _ => ∃ (F : Hp) (v_cells : V) (a_cells : (List Str)) (r : (List Int)), vs = [v_cells] ∧ Same F H ∧ (qL qS).r K F v_cells a_cells ∧ m_started a_cells = some r ∧ ∀ v F' H', Sx P0 F H F' H' → (qT qI).r K F' v r → Q v H'
theorem sc_started : FnScope ["cells"] ["cells"] (defScope s_started) := ⟨rfl, rfl, rfl, by decide +kernel, rfl, by decide +kernel, by decide +kernel⟩
theorem bn_started (T : Tx P K mg) : Binds K (fdOf K ("started", none)) ["cells"] [] := FunD.bindsN T.F_started fun _ _ _ _ _ _ us hl => match us, hl with | [_], _ => rfl
theorem ok_started (T : Tx P K mg) : FnOk P w K mg base CX0 2 (He.ga K "started") (fdOf K ("started", none)) ["cells"] (sp_started K) := by
 refine FunD.ok T.F_started sc_started (fun vs H0 Q E h => ?_) (fun cdv A outer s H0 vs Q E hr h => ?_)
 ·
  obtain ⟨_, _, _, _, rfl, _⟩ := h
  rfl
 ·
  obtain ⟨F0, v_cells, a_cells, r, rfl, hE, f_cells, hm, hQ⟩ := h
  refine ⟨_, PSs.nox ((pss_one (ps_ret (pe_call (ok_closed T) (hr.mono (by decide)) (by rfl) T.g_closed T.F_closed.kp (bn_closed T) .nil pass0 (pa_cons (pv 0) (pa_cons (pe_lst (pa_cons pe_int pa_nil)) pa_nil)))))), ?_⟩
  have S : Sx P0 F0 H0 F0 H0 := Sx.refl0 hE
  unfold m_started at hm
  refine rd_ret <| rd_call <| rd_cons <| rd_v rfl <| rd_cons <| rd_lst <| rd_cons <| rd_c <| rd_nil <| rd_lK rfl ?_
  refine alL (K := K) (A := qI) (xs := ([0] : List Int)) S (.cons rfl .nil) (fun v1 F2 H3 c4 f5 => ?_)
  have S6 := S.call0 c4
  have f_cells := f_cells.up c4
  have f7 : (qQ qI).r K F2 v1 ([0] : List Int) := (.inl f5)
  obtain ⟨t8, e9, hm⟩ := bd_some hm
  refine rd_nil ?_
  refine ⟨F2, _, _, _, _, t8, rfl, S6.sub, f_cells, f7, e9, fun v13 F10 H11 c12 f14 => ?_⟩
  have S15 := S6.call0 c12
  have f_cells := f_cells.up c12
  cases hm
  exact hQ _ _ _ S15 f14
def sp_Form_parts (K : PySem.W.Frag) : Sp := fun vs H Q _ => ∃ (F : Hp) (v_self : V) (a_self : (List Str)) (r : (List Str)), vs = [v_self] ∧ Same F H ∧ qForm.r K F v_self a_self ∧ m_Form_parts a_self = some r ∧ ∀ v F' H', Sx P0 F H F' H' → (qT qS).r K F' v r → Q v H'
theorem sc_Form_parts : FnScope ["self"] ["self"] (defScope s_Form_parts) := ⟨rfl, rfl, rfl, by decide +kernel, rfl, by decide +kernel, by decide +kernel⟩
theorem bn_Form_parts (T : Tx P K mg) : Binds K (fdOf K ("Form", some "parts")) ["self"] [] := FunD.bindsN T.F_Form_parts fun _ _ _ _ _ _ us hl => match us, hl with | [_], _ => rfl
theorem ok_Form_parts (T : Tx P K mg) : FnOk P w K mg base CX0 1 (He.fAd K ("Form", some "parts")) (fdOf K ("Form", some "parts")) ["self"] (sp_Form_parts K) := by
 refine FunD.ok T.F_Form_parts sc_Form_parts (fun vs H0 Q E h => ?_) (fun cdv A outer s H0 vs Q E hr h => ?_)
 ·
  obtain ⟨_, _, _, _, rfl, _⟩ := h
  rfl
 ·
  obtain ⟨F0, v_self, a_self, r, rfl, hE, f_self, hm, hQ⟩ := h
  refine ⟨_, PSs.nox ((pss_one (ps_ret (pe_fldK (pv 0) rfl)))), ?_⟩
  have S : Sx P0 F0 H0 F0 H0 := Sx.refl0 hE
  unfold m_Form_parts at hm
  refine rd_ret <| rd_fld <| rd_v rfl ?_
  refine fld_Form_pieces T S f_self (fun u1 f2 => ?_)
  cases hm
  exact hQ _ _ _ S f2
def sp_takes (K : PySem.W.Frag) : Sp := fun vs H Q _ => ∃ (F : Hp) (a_cell : Str) (a_sign : Str) (r : Bool), vs = [(V.str (a_cell)), (V.str (a_sign))] ∧ Same F H ∧ m_takes a_cell a_sign = some r ∧ ∀ v F' H', Sx P0 F H F' H' → qB.r K F' v r → Q v H'
theorem sc_takes : FnScope ["cell", "sign"] ["cell", "sign"] (defScope s_takes) := ⟨rfl, rfl, rfl, by decide +kernel, rfl, by decide +kernel, by decide +kernel⟩
theorem bn_takes (T : Tx P K mg) : Binds K (fdOf K ("takes", none)) ["cell", "sign"] [] := FunD.bindsN T.F_takes fun _ _ _ _ _ _ us hl => match us, hl with | [_, _], _ => rfl
theorem ok_takes (T : Tx P K mg) : FnOk P w K mg base CX0 1 (He.ga K "takes") (fdOf K ("takes", none)) ["cell", "sign"] (sp_takes K) := by
 refine FunD.ok T.F_takes sc_takes (fun vs H0 Q E h => ?_) (fun cdv A outer s H0 vs Q E hr h => ?_)
 ·
  obtain ⟨_, _, _, _, rfl, _⟩ := h
  rfl
 ·
  obtain ⟨F0, a_cell, a_sign, r, rfl, hE, hm, hQ⟩ := h
  refine ⟨_, PSs.nox ((pss_cons (ps_if (pt_cmpR op_eqS (pv 0) (pe_glob (v := V.str "<any>") (by rfl) (T.k_ANY_CELL.choose_spec) ⟨_, rfl⟩) (nomark _)) (pss_one (ps_ret pe_bl)) pss_nil) (pss_cons (ps_if (pt_cmpR op_eqS (pv 0) (pe_glob (v := V.str "<digits>") (by rfl) (T.k_DIGITS_CELL.choose_spec) ⟨_, rfl⟩) (nomark _)) (pss_one (ps_ret (pe_cmpR op_inS (pv 1) (pe_glob (v := V.str "0123456789") (by rfl) (T.k_DIGIT_SIGNS.choose_spec) ⟨_, rfl⟩) rfl))) pss_nil) (pss_cons (ps_if (pt_cmpR op_eqS (pv 0) (pe_glob (v := V.str "<word>") (by rfl) (T.k_WORD_CELL.choose_spec) ⟨_, rfl⟩) (nomark _)) (pss_one (ps_ret (pe_cmpR op_inS (pv 1) (pe_glob (v := V.str "ABCDEFGHIJKLMNOPQRSTUVWXYZabcdefghijklmnopqrstuvwxyz") (by rfl) (T.k_LETTER_SIGNS.choose_spec) ⟨_, rfl⟩) rfl))) pss_nil) (pss_one (ps_ret (pe_cmpR op_eqS (pv 0) (pv 1) (nomark _)))))))), ?_⟩
  have S : Sx P0 F0 H0 F0 H0 := Sx.refl0 hE
  unfold m_takes at hm
  refine rd_seq <| rd_ifS <| rd_test <| rd_op <| rd_v rfl <| rd_c <| rd_S0 <| rd_b ?_
  refine if_b hm (fun b1 hm => ?_) (fun b1 hm => ?_)
  ·
   cases hm
   refine rd_ret <| rd_c ?_
   exact hQ _ _ _ S rfl
  ·
   refine rd_next <| rd_seq <| rd_ifS <| rd_test <| rd_op <| rd_v rfl <| rd_c <| rd_S0 <| rd_b ?_
   refine if_b hm (fun b2 hm => ?_) (fun b2 hm => ?_)
   ·
    cases hm
    refine rd_ret <| rd_op <| rd_v rfl <| rd_c ?_
    refine rd_inSS ?_
    exact hQ _ _ _ S rfl
   ·
    refine rd_next <| rd_seq <| rd_ifS <| rd_test <| rd_op <| rd_v rfl <| rd_c <| rd_S0 <| rd_b ?_
    refine if_b hm (fun b3 hm => ?_) (fun b3 hm => ?_)
    ·
     cases hm
     refine rd_ret <| rd_op <| rd_v rfl <| rd_c ?_
     refine rd_inSS ?_
     exact hQ _ _ _ S rfl
    ·
     cases hm
     refine rd_next <| rd_ret <| rd_op <| rd_v rfl <| rd_v rfl <| rd_S0 ?_
     exact hQ _ _ _ S rfl
def sp_moved (K : PySem.W.Frag) : Sp := fun vs H Q _ => ∃ (F : Hp) (v_cells : V) (a_cells : (List Str)) (v_positions : V) (a_positions : (List Int)) (a_sign : Str) (r : (List Int)), vs = [v_cells, v_positions, (V.str (a_sign))] ∧ Same F H ∧ (qL qS).r K F v_cells a_cells ∧ (qQ qI).r K F v_positions a_positions ∧ m_moved a_cells a_positions a_sign = some r ∧ ∀ v F' H', Sx P0 F H F' H' → (qT qI).r K F' v r → Q v H'
theorem sc_moved : FnScope ["cells", "positions", "sign", "found", "at"] ["cells", "positions", "sign"] (defScope s_moved) := ⟨rfl, rfl, rfl, by decide +kernel, rfl, by decide +kernel, by decide +kernel⟩
theorem bn_moved (T : Tx P K mg) : Binds K (fdOf K ("moved", none)) ["cells", "positions", "sign"] [] := FunD.bindsN T.F_moved fun _ _ _ _ _ _ us hl => match us, hl with | [_, _, _], _ => rfl
theorem ok_moved (T : Tx P K mg) : FnOk P w K mg base CX0 2 (He.ga K "moved") (fdOf K ("moved", none)) ["cells", "positions", "sign"] (sp_moved K) := by
 refine FunD.ok T.F_moved sc_moved (fun vs H0 Q E h => ?_) (fun cdv A outer s H0 vs Q E hr h => ?_)
 ·
  obtain ⟨_, _, _, _, _, _, _, rfl, _⟩ := h
  rfl
 ·
  obtain ⟨F0, v_cells, a_cells, v_positions, a_positions, a_sign, r, rfl, hE, f_cells, f_positions, hm, hQ⟩ := h
  refine ⟨_, PSs.nox ((pss_cons (ps_set (i := 3) sc_moved.nd rfl (dk rfl) (pe_lst pa_nil)) (pss_cons (ps_for PassesOwn.never rfl (pi_seq (pv 1)) (pg_name (i := 4) sc_moved.nd rfl (dk rfl)) (C8.pss_cut (ps_if (PW.pt (pw_and (pt_cmpR op_lt (pv 4) (pe_callB (r := rLenQ K) cr_lenQ (by rfl) T.n_len (by decide +kernel) (pa_cons (pv 0) pa_nil)) (nomark _)) (pw_and1 (pt_val (pe_call (ok_takes T) (hr.mono (by decide)) (by rfl) T.g_takes T.F_takes.kp (bn_takes T) .nil pass0 (pa_cons (pe_ix (r := rIxL K) ix_list (pv 0) (pv 4) (fun _ _ => rfl)) (pa_cons (pv 2) pa_nil))))))) (pss_one (ps_expr (pe_bmK (K := K) PySem.F.plainAttrs_list PySem.F.slot_list_append PySem.F.type_list_append mt_append (pv 3) (pa_cons (pe_ifExp (pt_cmpR op_eqS (pe_ix (r := rIxL K) ix_list (pv 0) (pv 4) (fun _ _ => rfl)) (pe_glob (v := V.str "<any>") (by rfl) (T.k_ANY_CELL.choose_spec) ⟨_, rfl⟩) (nomark _)) (pv 4) (pe_op op_add (pv 4) pe_int)) pa_nil)))) pss_nil) (pss_one (ps_if (PW.pt (pw_and (pt_cmpR op_gt (pv 4) pe_int (nomark _)) (pw_and (pt_cmpR (r := rIn K false) op_in_seq (pe_ix (r := rIxL K) ix_list (pv 0) (pe_op op_sub (pv 4) pe_int) (fun _ _ => rfl)) (pe_tup (pa_cons (pe_glob (v := V.str "<digits>") (by rfl) (T.k_DIGITS_CELL.choose_spec) ⟨_, rfl⟩) (pa_cons (pe_glob (v := V.str "<word>") (by rfl) (T.k_WORD_CELL.choose_spec) ⟨_, rfl⟩) pa_nil))) rfl) (pw_and1 (pt_val (pe_call (ok_takes T) (hr.mono (by decide)) (by rfl) T.g_takes T.F_takes.kp (bn_takes T) .nil pass0 (pa_cons (pe_ix (r := rIxL K) ix_list (pv 0) (pe_op op_sub (pv 4) pe_int) (fun _ _ => rfl)) (pa_cons (pv 2) pa_nil)))))))) (pss_one (ps_expr (pe_bmK (K := K) PySem.F.plainAttrs_list PySem.F.slot_list_append PySem.F.type_list_append mt_append (pv 3) (pa_cons (pv 4) pa_nil)))) pss_nil)))) (pss_one (ps_ret (pe_call (ok_closed T) (hr.mono (by decide)) (by rfl) T.g_closed T.F_closed.kp (bn_closed T) .nil pass0 (pa_cons (pv 0) (pa_cons (pv 3) pa_nil)))))))), ?_⟩
  have S : Sx P0 F0 H0 F0 H0 := Sx.refl0 hE
  unfold m_moved at hm
  refine rd_seq <| rd_asg <| rd_lst <| rd_nil <| rd_lK rfl ?_
  refine al S (fun p1 H2 np3 c4 w5 => ?_)
  have z7 := S.free0 np3
  have S8 := S.call0 c4
  obtain ⟨f_cells, f_positions⟩ := up2 f_cells f_positions c4
  refine rd_gn <| rd_seq <| rd_for ?_
  refine rd_wSeq S8 f_positions (by intro _ k; exact rd_v rfl k) (fun J9 n10 G11 it12 fd13 ty14 hg15 => ?_)
  have r16 : Row qI K F0 [] ([] : List Int) := .nil
  obtain ⟨t17, e18, hm⟩ := bd_some hm
  refine rd_forS fd13 ty14 e18 (fun (s19 : (List Int)) σ H => ∃ (F : Hp) (o4 : Option V) (vs0 : List V), σ = [some v_cells, some v_positions, some (V.str (a_sign)), some (V.ref p1), o4] ∧ Sx (fun a => a = p1) F0 H2 F H ∧ Ow (fun a => a = p1) H2 F H p1 (.lst vs0) ∧ Row qI K F vs0 s19) ?_ ?_ ?_ ?_
  ·
   rintro _ _ _ ⟨_, _, _, _, S20, _, _⟩
   exact (hg15 _ _ S20.le S20.sub)
  ·
   have S21 : Sx (fun a => a = p1) _ _ _ _ := Sx.refl S8.sub (fun a z => by rw [z, w5.at_]; exact (fun h => nomatch h))
   have w22 : Ow (fun a => a = p1) H2 _ _ _ _ := ⟨w5.fr, w5.at_, .inr (rfl)⟩
   exact ⟨F0, _, _, rfl, S21, w22, r16⟩
  ·
   rintro x23 v24 s25 c29 σ26 H27 f28 ⟨F30, o32, v33, rfl, S31, w34, r35⟩ hm38
   obtain ⟨f_cells, f_positions⟩ := up2 f_cells f_positions S31
   unfold m_moved_b1 at hm38
   cases (show v24 = (V.int (x23)) from f28)
   obtain ⟨t39, e40, hm38⟩ := bd_some hm38
   refine rd_gn ?_
   refine rd_cut (fun σ' H' => ∃ (F : Hp) (vs0 : List V), σ' = [some v_cells, some v_positions, some (V.str (a_sign)), some (V.ref p1), some (V.int (x23))] ∧ Sx (fun a => a = p1) F30 H27 F H' ∧ Ow (fun a => a = p1) H27 F H' p1 (.lst vs0) ∧ Row qI K F vs0 t39) ?_ ?_
   ·
    have S41 : Sx (fun a => a = p1) _ _ _ _ := Sx.refl S31.sub (fun a z => by rw [z, w34.at_]; exact (fun h => nomatch h))
    have w42 : Ow (fun a => a = p1) H27 _ _ _ _ := ⟨w34.fr, w34.at_, .inr (rfl)⟩
    obtain ⟨t55, e56, e40⟩ := bd_some e40
    refine rd_ifS <| rd_and <| rd_test <| rd_op <| rd_v rfl <| rd_cb <| rd_cons <| rd_v rfl <| rd_nil ?_
    refine rd_lenQ (S41.l f_cells).r.q ?_
    refine rd_I0 <| rd_b ?_
    refine and_j (fun c H' => c = t55 ∧ ∃ F', Sx P0 F30 H27 F' H') ?_ ?_ ?_
    ·
     intro b57 Q58 q59
     have e56 := if_t e56 b57
     have S60 := Sx.refl0 S41.sub
     obtain ⟨t61, e62, e56⟩ := bd_some e56
     refine rd_tB <| rd_call <| rd_cons <| rd_op <| rd_v rfl <| rd_v rfl ?_
     refine rd_ixL (S60.l f_cells).r e62 (fun u63 f64 => ?_)
     cases (show u63 = (V.str (t61)) from f64)
     obtain ⟨t65, e66, e56⟩ := bd_some e56
     refine rd_cons <| rd_v rfl <| rd_nil ?_
     refine ⟨F30, _, _, t65, rfl, S60.sub, e66, fun v70 F67 H68 c69 f71 => ?_⟩
     have S72 := S60.call0 c69
     obtain ⟨f_cells, f_positions⟩ := up2 f_cells f_positions c69
     have r35 := Row.mono c69.le r35
     have w42 := w42.call0 c69
     cases (show v70 = (V.bl (t65)) from f71)
     cases e56
     refine rd_b ?_
     exact q59 _ _ ⟨rfl, F67, S72⟩
    ·
     intro b57
     have e56 := if_f e56 b57
     cases e56
     have S73 := Sx.refl0 S41.sub
     exact ⟨rfl, F30, S73⟩
    rintro b77 H75 ⟨rfl, F74, c76⟩
    have S78 := S41.call0 c76
    obtain ⟨f_cells, f_positions⟩ := up2 f_cells f_positions c76
    have r35 := Row.mono c76.le r35
    have w42 := w42.call0 c76
    refine if_b e40 (fun b79 e40 => ?_) (fun b79 e40 => ?_)
    ·
     obtain ⟨t80, e81, e40⟩ := bd_some e40
     refine rd_drop <| rd_bm <| rd_v rfl <| rd_ty w42.ty <| rd_cons ?_
     refine rd_ifE ?_
     refine rd_test <| rd_op <| rd_op <| rd_v rfl <| rd_v rfl ?_
     refine rd_ixL (S78.l f_cells).r e81 (fun u82 f83 => ?_)
     cases (show u82 = (V.str (t80)) from f83)
     obtain ⟨t84, e85, e40⟩ := bd_some e40
     refine rd_c <| rd_S0 <| rd_b ?_
     refine ifE_j (fun c H' => ∃ F', c = (V.int (t84)) ∧ Sx P0 F74 H75 F' H') ?_ ?_ ?_
     ·
      intro b86 Q87 q88
      have hm89 := if_t e85 b86
      have S90 := Sx.refl0 S78.sub
      cases hm89
      refine rd_v rfl ?_
      exact q88 _ _ ⟨F74, rfl, S90⟩
     ·
      intro b91 Q92 q93
      have hm94 := if_f e85 b91
      have S95 := Sx.refl0 S78.sub
      cases hm94
      refine rd_op <| rd_v rfl <| rd_c <| rd_I0 ?_
      exact q93 _ _ ⟨F74, rfl, S95⟩
     rintro v99 H97 ⟨F96, f100, c98⟩
     have S101 := S78.call0 c98
     obtain ⟨f_cells, f_positions⟩ := up2 f_cells f_positions c98
     have r35 := Row.mono c98.le r35
     have w42 := w42.call0 c98
     cases (show v99 = (V.int (t84)) from f100)
     obtain ⟨g102, e40⟩ := gd_some e40
     refine rd_nil ?_
     refine ap S101 w42 r35 g102 (fun H103 c104 w105 => ?_)
     have r106 := r35.snoc (show qI.r K F96 _ t84 from rfl)
     have S107 := S101.call1 c104 w42
     obtain ⟨f_cells, f_positions⟩ := up2 f_cells f_positions c104
     have r106 := Row.mono c104.le r106
     cases e40
     exact ⟨F96, _, rfl, S107, w105, r106⟩
    ·
     cases e40
     refine rd_next ?_
     exact ⟨F74, _, rfl, S78, w42, r35⟩
   ·
    rintro σ109 H108 ⟨F110, v112, rfl, S111, w113, r114⟩
    have S115 := S31.call1 S111 w34
    obtain ⟨f_cells, f_positions⟩ := up2 f_cells f_positions S111
    have w116 : Ow (fun a => a = p1) H2 _ _ _ _ := ⟨w113.fr, w113.at_, w34.mine⟩
    obtain ⟨t163, e164, hm38⟩ := bd_some hm38
    refine rd_ifS <| rd_and <| rd_test <| rd_op <| rd_v rfl <| rd_c <| rd_I0 <| rd_b ?_
    refine and_j (fun c H' => c = t163 ∧ ∃ F', Sx P0 F110 H108 F' H') ?_ ?_ ?_
    ·
     intro b165 Q166 q167
     have e164 := if_t e164 b165
     have S168 := Sx.refl0 S115.sub
     obtain ⟨t169, e170, e164⟩ := bd_some e164
     refine rd_and <| rd_test <| rd_op <| rd_op <| rd_v rfl <| rd_op <| rd_v rfl <| rd_c <| rd_I0 ?_
     refine rd_ixL (S168.l f_cells).r e170 (fun u171 f172 => ?_)
     cases (show u171 = (V.str (t169)) from f172)
     refine rd_tup <| rd_cons <| rd_c <| rd_cons <| rd_c <| rd_nil <| rd_uK rfl ?_
     refine alT (K := K) (A := qS) (xs := [("<digits>" : Str), ("<word>" : Str)]) S168 (.cons rfl (.cons rfl .nil)) (fun v173 F174 H175 c176 f177 => ?_)
     have S178 := S168.call0 c176
     obtain ⟨f_cells, f_positions⟩ := up2 f_cells f_positions c176
     have r114 := Row.mono c176.le r114
     have w116 := w116.call0 c176
     obtain ⟨t191, e192, e164⟩ := bd_some e164
     refine rd_inS (S178.t f177).q ?_
     refine rd_b ?_
     refine and_j (fun c H' => c = t191 ∧ ∃ F', Sx P0 F174 H175 F' H') ?_ ?_ ?_
     ·
      intro b193 Q194 q195
      have e192 := if_t e192 b193
      have S196 := Sx.refl0 S178.sub
      obtain ⟨t197, e198, e192⟩ := bd_some e192
      refine rd_tB <| rd_call <| rd_cons <| rd_op <| rd_v rfl <| rd_op <| rd_v rfl <| rd_c <| rd_I0 ?_
      refine rd_ixL (S196.l f_cells).r e198 (fun u199 f200 => ?_)
      cases (show u199 = (V.str (t197)) from f200)
      obtain ⟨t201, e202, e192⟩ := bd_some e192
      refine rd_cons <| rd_v rfl <| rd_nil ?_
      refine ⟨F174, _, _, t201, rfl, S196.sub, e202, fun v206 F203 H204 c205 f207 => ?_⟩
      have S208 := S196.call0 c205
      obtain ⟨f_cells, f_positions⟩ := up2 f_cells f_positions c205
      have r114 := Row.mono c205.le r114
      have w116 := w116.call0 c205
      cases (show v206 = (V.bl (t201)) from f207)
      cases e192
      refine rd_b ?_
      exact q195 _ _ ⟨rfl, F203, S208⟩
     ·
      intro b193
      have e192 := if_f e192 b193
      cases e192
      have S209 := Sx.refl0 S178.sub
      exact ⟨rfl, F174, S209⟩
     rintro b213 H211 ⟨rfl, F210, c212⟩
     have S214 := S178.call0 c212
     obtain ⟨f_cells, f_positions⟩ := up2 f_cells f_positions c212
     have r114 := Row.mono c212.le r114
     have w116 := w116.call0 c212
     cases e164
     exact q167 _ _ ⟨rfl, F210, S214⟩
    ·
     intro b165
     have e164 := if_f e164 b165
     cases e164
     have S215 := Sx.refl0 S115.sub
     exact ⟨rfl, F110, S215⟩
    rintro b219 H217 ⟨rfl, F216, c218⟩
    have S220 := S115.call0 c218
    obtain ⟨f_cells, f_positions⟩ := up2 f_cells f_positions c218
    have r114 := Row.mono c218.le r114
    have w116 := w116.call0 c218
    refine if_b hm38 (fun b221 hm38 => ?_) (fun b221 hm38 => ?_)
    ·
     obtain ⟨g222, hm38⟩ := gd_some hm38
     refine rd_drop <| rd_bm <| rd_v rfl <| rd_ty w116.ty <| rd_cons <| rd_v rfl <| rd_nil ?_
     refine ap S220 w116 r114 g222 (fun H223 c224 w225 => ?_)
     have r226 := r114.snoc (show qI.r K F216 _ x23 from rfl)
     have S227 := S220.call1 c224 w116
     obtain ⟨f_cells, f_positions⟩ := up2 f_cells f_positions c224
     have r226 := Row.mono c224.le r226
     cases hm38
     exact ⟨F216, _, _, rfl, S227, w225, r226⟩
    ·
     cases hm38
     refine rd_next ?_
     exact ⟨F216, _, _, rfl, S220, w116, r114⟩
  ·
   rintro σ228 H229 ⟨F230, o232, v233, rfl, S231, w234, r235⟩
   have S236 := S8.call1 S231 w5
   obtain ⟨f_cells, f_positions⟩ := up2 f_cells f_positions S231
   have w237 : Ow P0 H0 _ _ _ _ := ⟨w234.fr, w234.at_, w5.mine⟩
   obtain ⟨F238, S239, le240, f241, _, eq242⟩ := fz S236 w237 z7 r235
   have f_cells := (qL qS).mono le240 f_cells
   have f_positions := (qQ qI).mono le240 f_positions
   have f243 : (qQ qI).r K F238 (V.ref p1) t17 := (.inl f241)
   obtain ⟨t244, e245, hm⟩ := bd_some hm
   refine rd_ret <| rd_call <| rd_cons <| rd_v rfl <| rd_cons <| rd_v rfl <| rd_nil ?_
   refine ⟨F238, _, _, _, _, t244, rfl, S239.sub, f_cells, f243, e245, fun v249 F246 H247 c248 f250 => ?_⟩
   have S251 := S239.call0 c248
   obtain ⟨f_cells, f_positions, f241⟩ := up3 f_cells f_positions f241 c248
   cases hm
   exact hQ _ _ _ S251 f250
def sp_is_done (K : PySem.W.Frag) : Sp := fun vs H Q _ => ∃ (F : Hp) (v_cells : V) (a_cells : (List Str)) (v_positions : V) (a_positions : (List Int)) (r : Bool), vs = [v_cells, v_positions] ∧ Same F H ∧ (qL qS).r K F v_cells a_cells ∧ (qQ qI).r K F v_positions a_positions ∧ m_is_done a_cells a_positions = some r ∧ ∀ v F' H', Sx P0 F H F' H' → qB.r K F' v r → Q v H'
theorem sc_is_done : FnScope ["cells", "positions"] ["cells", "positions"] (defScope s_is_done) := ⟨rfl, rfl, rfl, by decide +kernel, rfl, by decide +kernel, by decide +kernel⟩
theorem bn_is_done (T : Tx P K mg) : Binds K (fdOf K ("is_done", none)) ["cells", "positions"] [] := FunD.bindsN T.F_is_done fun _ _ _ _ _ _ us hl => match us, hl with | [_, _], _ => rfl
theorem ok_is_done (T : Tx P K mg) : FnOk P w K mg base CX0 1 (He.ga K "is_done") (fdOf K ("is_done", none)) ["cells", "positions"] (sp_is_done K) := by
 refine FunD.ok T.F_is_done sc_is_done (fun vs H0 Q E h => ?_) (fun cdv A outer s H0 vs Q E hr h => ?_)
 ·
  obtain ⟨_, _, _, _, _, _, rfl, _⟩ := h
  rfl
 ·
  obtain ⟨F0, v_cells, a_cells, v_positions, a_positions, r, rfl, hE, f_cells, f_positions, hm, hQ⟩ := h
  refine ⟨_, PSs.nox ((pss_one (ps_ret (pe_cmpR (r := rIn K false) op_in_seq (pe_callB (r := rLenQ K) cr_lenQ (by rfl) T.n_len (by decide +kernel) (pa_cons (pv 0) pa_nil)) (pv 1) rfl)))), ?_⟩
  have S : Sx P0 F0 H0 F0 H0 := Sx.refl0 hE
  unfold m_is_done at hm
  cases hm
  refine rd_ret <| rd_op <| rd_cb <| rd_cons <| rd_v rfl <| rd_nil ?_
  refine rd_lenQ (S.l f_cells).r.q ?_
  refine rd_v rfl ?_
  refine rd_inI (S.q f_positions) ?_
  exact hQ _ _ _ S rfl
def sp_pat___contains__ (x : Str) (K : PySem.W.Frag) : Sp := fun vs H Q _ => ∃ (F : Hp) (v_self : V) (a_self : Pat) (a_line : Str) (r : Bool), vs = [v_self, (V.str (a_line))] ∧ Same F H ∧ qPat.r K F v_self a_self ∧ a_self.cls = x ∧ m_pat___contains__ a_self a_line = some r ∧ ∀ v F' H', Sx P0 F H F' H' → qB.r K F' v r → Q v H'
theorem sc_pat___contains__ : FnScope ["self", "line", "truths", "form", "cells", "positions", "sign"] ["self", "line"] (defScope s_pat___contains__) := ⟨rfl, rfl, rfl, by decide +kernel, rfl, by decide +kernel, by decide +kernel⟩
theorem bn_pat___contains__ {x : Str} (F : FnD' K (x, some "__contains__") "__contains__" "Pattern.__contains__" s_pat___contains__) : Binds K (fdOf K (x, some "__contains__")) ["self", "line"] [] := FunD.bindsN F fun _ _ _ _ _ _ us hl => match us, hl with | [_, _], _ => rfl
theorem ok_pat___contains__ (T : Tx P K mg) {x : Str} (F : FnD' K (x, some "__contains__") "__contains__" "Pattern.__contains__" s_pat___contains__) : FnOk P w K mg base CX0 5 (He.fAd K (x, some "__contains__")) (fdOf K (x, some "__contains__")) ["self", "line"] (sp_pat___contains__ x K) := by
 refine FunD.ok F sc_pat___contains__ (fun vs H0 Q E h => ?_) (fun cdv A outer s H0 vs Q E hr h => ?_)
 ·
  obtain ⟨_, _, _, _, _, rfl, _⟩ := h
  rfl
 ·
  obtain ⟨F0, v_self, a_self, a_line, r, rfl, hE, f_self, hcls, hm, hQ⟩ := h
  refine ⟨_, PSs.nox ((pss_cons (ps_if (pt_not (pt_val (pe_call (ok_is_line T) (hr.mono (by decide)) (by rfl) T.g_is_line T.F_is_line.kp (bn_is_line T) .nil pass0 (pa_cons (pv 1) pa_nil)))) (pss_one (ps_ret pe_bl)) pss_nil) (pss_cons (ps_set (i := 2) sc_pat___contains__.nd rfl (dk rfl) (pe_lst pa_nil)) (pss_cons (ps_for PassesOwn.never rfl (pi_listK (pe_methV0 (E := E0) (pv 0))) (pg_name (i := 3) sc_pat___contains__.nd rfl (dk rfl)) (pss_cons (ps_set (i := 4) sc_pat___contains__.nd rfl (dk rfl) (pe_call (ok_cells_of T) (hr.mono (by decide)) (by rfl) T.g_cells_of T.F_cells_of.kp (bn_cells_of T) .nil pass0 (pa_cons (pe_meth0 (pv 3) T.c_Form T.me_Form_parts (ok_Form_parts T) (hr.mono (by decide)) (bn_Form_parts T) .nil pass0) pa_nil))) (pss_cons (ps_set (i := 5) sc_pat___contains__.nd rfl (dk rfl) (pe_call (ok_started T) (hr.mono (by decide)) (by rfl) T.g_started T.F_started.kp (bn_started T) .nil pass0 (pa_cons (pv 4) pa_nil))) (pss_cons (ps_for PassesOwn.never rfl (pi_str (pv 1)) (pg_name (i := 6) sc_pat___contains__.nd rfl (dk rfl)) (pss_one (ps_set (i := 5) sc_pat___contains__.nd rfl (dk rfl) (pe_call (ok_moved T) (hr.mono (by decide)) (by rfl) T.g_moved T.F_moved.kp (bn_moved T) .nil pass0 (pa_cons (pv 4) (pa_cons (pv 5) (pa_cons (pv 6) pa_nil))))))) (pss_one (ps_expr (pe_bmK (K := K) PySem.F.plainAttrs_list PySem.F.slot_list_append PySem.F.type_list_append mt_append (pv 2) (pa_cons (pe_call (ok_is_done T) (hr.mono (by decide)) (by rfl) T.g_is_done T.F_is_done.kp (bn_is_done T) .nil pass0 (pa_cons (pv 4) (pa_cons (pv 5) pa_nil))) pa_nil)))))))) (pss_one (ps_ret (pe_methV (E := E0) (pv 0) (pa_cons (pv 2) pa_nil)))))))), ?_⟩
  have S : Sx P0 F0 H0 F0 H0 := Sx.refl0 hE
  unfold m_pat___contains__ at hm
  have f1 : qTh.r K F0 (V.str (a_line)) (Th.d (PyData.str (a_line))) := (show qTh.r K F0 _ (Th.d (PyData.str (a_line))) from Dp.str _)
  obtain ⟨t2, e3, hm⟩ := bd_some hm
  refine rd_seq <| rd_ifS <| rd_not <| rd_tB <| rd_call <| rd_cons <| rd_v rfl <| rd_nil ?_
  refine ⟨F0, _, _, t2, rfl, S.sub, f1, e3, fun v7 F4 H5 c6 f8 => ?_⟩
  have S9 := S.call0 c6
  have f_self := f_self.up c6
  cases (show v7 = (V.bl (t2)) from f8)
  refine rd_b ?_
  refine if_b hm (fun b10 hm => ?_) (fun b10 hm => ?_)
  ·
   cases hm
   refine rd_ret <| rd_c ?_
   exact hQ _ _ _ S9 rfl
  ·
   refine rd_next <| rd_seq <| rd_asg <| rd_lst <| rd_nil <| rd_lK rfl ?_
   refine al S9 (fun p11 H12 np13 c14 w15 => ?_)
   have r16 : Row qB K F4 [] ([] : List Bool) := .nil
   have z17 := S9.free0 np13
   have S18 := S9.call0 c14
   have f_self := f_self.up c14
   refine rd_gn <| rd_seq <| rd_for <| rd_iL ?_
   refine rd_methV ?_
   refine rd_v rfl ?_
   refine VM.call (vm_forms T 3) (hr.mono (by decide)) S18 f_self ?_
   obtain ⟨t19, e20, hm⟩ := bd_some hm
   refine rd_nil ?_
   refine ⟨F4, _, _, t19, rfl, S18.sub, f_self, rfl, e20, fun v24 F21 H22 c23 f25 => ?_⟩
   have S26 := S18.call0 c23
   have f_self := f_self.up c23
   have r16 := Row.mono c23.le r16
   have w15 := w15.call0 c23
   refine rd_wLF S26 (f25) (fun p27 vs28 hq29 row30 => ?_)
   obtain ⟨t31, e32, hm⟩ := bd_some hm
   refine rd_forS feedsL (typedRow row30) e32 (fun (s33 : (List Bool)) σ H => ∃ (F : Hp) (o3 : Option V) (o4 : Option V) (o5 : Option V) (o6 : Option V) (vs0 : List V), σ = [some v_self, some (V.str (a_line)), some (V.ref p11), o3, o4, o5, o6] ∧ Sx (fun a => a = p11) F21 H22 F H ∧ Ow (fun a => a = p11) H22 F H p11 (.lst vs0) ∧ Row qB K F vs0 s33) ?_ ?_ ?_ ?_
   ·
    rintro _ _ _ ⟨_, _, _, _, _, _, _, S34, _, _⟩
    exact (Same.seq S34.sub (Same.seq S34.le hq29))
   ·
    have S35 : Sx (fun a => a = p11) _ _ _ _ := Sx.refl S26.sub (fun a z => by rw [z, w15.at_]; exact (fun h => nomatch h))
    have w36 : Ow (fun a => a = p11) H22 _ _ _ _ := ⟨w15.fr, w15.at_, .inr (rfl)⟩
    exact ⟨F21, _, _, _, _, _, rfl, S35, w36, r16⟩
   ·
    rintro x37 v38 s39 c43 σ40 H41 f42 ⟨F44, o46, o47, o48, o49, v50, rfl, S45, w51, r52⟩ hm55
    have f_self := f_self.up S45
    unfold m_pat___contains___b2 at hm55
    have f42 := f42.up S45
    refine rd_gn <| rd_seq <| rd_asg <| rd_call <| rd_cons <| rd_meth <| rd_v rfl ?_
    refine mt_Form_parts S45 f42 ?_
    obtain ⟨t56, e57, hm55⟩ := bd_some hm55
    refine rd_nil ?_
    refine ⟨F44, _, _, t56, rfl, S45.sub, f42, e57, fun v61 F58 H59 c60 f62 => ?_⟩
    have S63 := S45.call0 c60
    obtain ⟨f_self, f42⟩ := up2 f_self f42 c60
    have r52 := Row.mono c60.le r52
    have w51 := w51.call0 c60
    have f64 : (qQ qS).r K F58 v61 t56 := (.inr f62)
    obtain ⟨t65, e66, hm55⟩ := bd_some hm55
    refine rd_nil ?_
    refine ⟨F58, _, _, t65, rfl, S63.sub, f64, e66, fun v70 F67 H68 c69 f71 => ?_⟩
    have S72 := S63.call0 c69
    obtain ⟨f_self, f42⟩ := up2 f_self f42 c69
    have r52 := Row.mono c69.le r52
    have w51 := w51.call0 c69
    obtain ⟨t73, e74, hm55⟩ := bd_some hm55
    refine rd_gn <| rd_seq <| rd_asg <| rd_call <| rd_cons <| rd_v rfl <| rd_nil ?_
    refine ⟨F67, _, _, t73, rfl, S72.sub, f71, e74, fun v78 F75 H76 c77 f79 => ?_⟩
    have S80 := S72.call0 c77
    obtain ⟨f_self, f71, f42⟩ := up3 f_self f71 f42 c77
    have r52 := Row.mono c77.le r52
    have w51 := w51.call0 c77
    refine rd_gn <| rd_seq <| rd_for ?_
    refine rd_iS ?_
    refine rd_v rfl ?_
    refine rd_wS ?_
    obtain ⟨t81, e82, hm55⟩ := bd_some hm55
    refine rd_forS feedsS (typedS (K := K) (F := F75)) e82 (fun (s83 : (List Int)) σ H => ∃ (F : Hp) (x0 : V) (o6 : Option V), σ = [some v_self, some (V.str (a_line)), some (V.ref p11), some v38, some v70, some x0, o6] ∧ Sx P0 F75 H76 F H ∧ (qT qI).r K F x0 s83) ?_ ?_ ?_ ?_
    ·
     intro _ _ _ _; trivial
    ·
     have S85 := Sx.refl0 S80.sub
     exact ⟨F75, _, _, rfl, S85, f79⟩
    ·
     rintro x86 v87 s88 c92 σ89 H90 f91 ⟨F93, x95, o96, rfl, S94, f97⟩ hm100
     obtain ⟨f_self, f71, f42⟩ := up3 f_self f71 f42 S94
     have r52 := Row.mono S94.le r52
     have w51 := w51.call0 S94
     unfold m_pat___contains___b1 at hm100
     cases (show v87 = (V.str (x86)) from f91)
     have f101 : (qQ qI).r K F93 x95 s88 := (.inr f97)
     obtain ⟨t102, e103, hm100⟩ := bd_some hm100
     refine rd_gn <| rd_asg <| rd_call <| rd_cons <| rd_v rfl <| rd_cons <| rd_v rfl <| rd_cons <| rd_v rfl <| rd_nil ?_
     refine ⟨F93, _, _, _, _, _, t102, rfl, S94.sub, f71, f101, e103, fun v107 F104 H105 c106 f108 => ?_⟩
     have S109 := S94.call0 c106
     obtain ⟨f_self, f71, f97, f42⟩ := up4 f_self f71 f97 f42 c106
     have r52 := Row.mono c106.le r52
     have w51 := w51.call0 c106
     cases hm100
     refine rd_gn ?_
     exact ⟨F104, _, _, rfl, S109, f108⟩
    ·
     rintro σ110 H111 ⟨F112, x114, o115, rfl, S113, f116⟩
     have S117 := S80.call0 S113
     obtain ⟨f_self, f71, f42⟩ := up3 f_self f71 f42 S113
     have r52 := Row.mono S113.le r52
     have w51 := w51.call0 S113
     have f118 : (qQ qI).r K F112 x114 t81 := (.inr f116)
     obtain ⟨t119, e120, hm55⟩ := bd_some hm55
     refine rd_drop <| rd_bm <| rd_v rfl <| rd_ty w51.ty <| rd_cons <| rd_call <| rd_cons <| rd_v rfl <| rd_cons <| rd_v rfl <| rd_nil ?_
     refine ⟨F112, _, _, _, _, t119, rfl, S117.sub, f71, f118, e120, fun v124 F121 H122 c123 f125 => ?_⟩
     have S126 := S117.call0 c123
     obtain ⟨f_self, f71, f116, f42⟩ := up4 f_self f71 f116 f42 c123
     have r52 := Row.mono c123.le r52
     have w51 := w51.call0 c123
     cases (show v124 = (V.bl (t119)) from f125)
     obtain ⟨g127, hm55⟩ := gd_some hm55
     refine rd_nil ?_
     refine ap S126 w51 r52 g127 (fun H128 c129 w130 => ?_)
     have r131 := r52.snoc (show qB.r K F121 _ t119 from rfl)
     have S132 := S126.call1 c129 w51
     obtain ⟨f_self, f71, f116, f42⟩ := up4 f_self f71 f116 f42 c129
     have r131 := Row.mono c129.le r131
     cases hm55
     exact ⟨F121, _, _, _, _, _, rfl, S132, w130, r131⟩
   ·
    rintro σ133 H134 ⟨F135, o137, o138, o139, o140, v141, rfl, S136, w142, r143⟩
    have S144 := S26.call1 S136 w15
    have f_self := f_self.up S136
    have w145 : Ow P0 H0 _ _ _ _ := ⟨w142.fr, w142.at_, w15.mine⟩
    refine rd_ret ?_
    refine rd_methV ?_
    refine rd_v rfl ?_
    refine VM.call (vm_holds T 3) (hr.mono (by decide)) S144 f_self ?_
    obtain ⟨F146, S147, le148, f149, _, eq150⟩ := fz S144 w145 z17 r143
    have f_self := qPat.mono le148 f_self
    obtain ⟨t151, e152, hm⟩ := bd_some hm
    refine rd_cons <| rd_v rfl <| rd_nil ?_
    refine ⟨F146, _, _, _, _, t151, rfl, S147.sub, f_self, rfl, f149, e152, fun v156 F153 H154 c155 f157 => ?_⟩
    have S158 := S147.call0 c155
    obtain ⟨f_self, f149⟩ := up2 f_self f149 c155
    cases (show v156 = (V.bl (t151)) from f157)
    cases hm
    exact hQ _ _ _ S158 rfl
theorem vm_contains (T : Tx P K mg) : VM P w K mg base 5 "__contains__" ["self", "line"] (fun x => sp_pat___contains__ x K) := ⟨fun x hx => by
 rcases hx with rfl | rfl | rfl
 ·
  exact ⟨T.c_Form, T.me_Form___contains__, ok_pat___contains__ T T.F_Form___contains__, bn_pat___contains__ T.F_Form___contains__⟩
 ·
  exact ⟨T.c_Both, T.me_Both___contains__, ok_pat___contains__ T T.F_Both___contains__, bn_pat___contains__ T.F_Both___contains__⟩
 ·
  exact ⟨T.c_Either, T.me_Either___contains__, ok_pat___contains__ T T.F_Either___contains__, bn_pat___contains__ T.F_Either___contains__⟩⟩
def sp_Rule_begins_on (K : PySem.W.Frag) : Sp := fun vs H Q _ => ∃ (F : Hp) (v_self : V) (a_self : τ3ₓ) (a_line : Str) (r : Bool), vs = [v_self, (V.str (a_line))] ∧ Same F H ∧ qRule.r K F v_self a_self ∧ m_Rule_begins_on a_self a_line = some r ∧ ∀ v F' H', Sx P0 F H F' H' → qB.r K F' v r → Q v H'
theorem sc_Rule_begins_on : FnScope ["self", "line", "mark"] ["self", "line"] (defScope s_Rule_begins_on) := ⟨rfl, rfl, rfl, by decide +kernel, rfl, by decide +kernel, by decide +kernel⟩
theorem bn_Rule_begins_on (T : Tx P K mg) : Binds K (fdOf K ("Rule", some "begins_on")) ["self", "line"] [] := FunD.bindsN T.F_Rule_begins_on fun _ _ _ _ _ _ us hl => match us, hl with | [_, _], _ => rfl
theorem ok_Rule_begins_on (T : Tx P K mg) : FnOk P w K mg base CX0 6 (He.fAd K ("Rule", some "begins_on")) (fdOf K ("Rule", some "begins_on")) ["self", "line"] (sp_Rule_begins_on K) := by
 refine FunD.ok T.F_Rule_begins_on sc_Rule_begins_on (fun vs H0 Q E h => ?_) (fun cdv A outer s H0 vs Q E hr h => ?_)
 ·
  obtain ⟨_, _, _, _, _, rfl, _⟩ := h
  rfl
 ·
  obtain ⟨F0, v_self, a_self, a_line, r, rfl, hE, f_self, hm, hQ⟩ := h
  refine ⟨_, PSs.nox ((pss_one (ps_ret (pe_callB (r := rAnyK K) (cr_anyK rfl) (by rfl) T.n_any (by decide +kernel) (pa_cons (pe_lc (own := [("mark", 2)]) (tt := tYes) rfl sc_Rule_begins_on.nd (pi_listK (pe_fldK (pv 0) rfl)) (blkOk_by (N := ["self", "line", "mark"]) (sc := defScope s_Rule_begins_on) (by decide +kernel)) (fun _ _ _ _ _ => pg_name (i := 2) sc_Rule_begins_on.nd rfl (Or.inl rfl)) (fun _ _ _ _ _ => pts_nil) (fun _ _ _ _ _ => (pe_cmpR (r := rInW P w K mg base 5 false) (op_inW (hr.mono (by decide))) (pv 1) (pv 2) rfl))) pa_nil))))), ?_⟩
  have S : Sx P0 F0 H0 F0 H0 := Sx.refl0 hE
  unfold m_Rule_begins_on at hm
  refine rd_ret <| rd_cb <| rd_cons <| rd_lc <| rd_iL <| rd_fld <| rd_v rfl ?_
  refine fld_Rule_openers T S f_self (fun u1 f2 => ?_)
  refine rd_wLF S (f2) (fun p3 vs4 hq5 row6 => ?_)
  obtain ⟨g7, hm⟩ := gd_some hm
  obtain ⟨t8, e9, hm⟩ := bd_some hm
  refine rd_comp (B := qB) feedsL (typedRow row6) e9 g7 (Pc := P0) (fun _ z => z.elim) S.sub (fun (s10 : Unit) F H => True) ?_ ?_ ?_ ?_ ?_ ?_
  ·
   intro _ _ _ S11 _
   exact (Same.seq S11.sub (Same.seq S11.le hq5))
  ·
   trivial
  ·
   intros; trivial
  ·
   intros; trivial
  ·
   intro x12 v13 s14 o15 F16 H17 d18 acc19 f20 S21 w22 w23 n24 hm25 E26 N27 hN28 hE29
   have f_self := f_self.up S21
   have S30 := Sx.refl0 S21.sub
   unfold m_Rule_begins_on_b1 at hm25
   have f20 := f20.up S21
   refine rd_gn <| rd_wp rfl <| rd_yes <| if_tt <| rd_op <| rd_v rfl <| rd_v rfl ?_
   refine VM.inW (vm_contains T) S30 f20 ?_
   obtain ⟨t31, e32, hm25⟩ := bd_some hm25
   refine ⟨F16, _, _, _, t31, rfl, S30.sub, f20, rfl, e32, fun v36 F33 H34 c35 f37 => ?_⟩
   have S38 := S30.call0 c35
   obtain ⟨f_self, f20⟩ := up2 f_self f20 c35
   cases (show v36 = (V.bl (t31)) from f37)
   cases hm25
   refine rd_inWf ?_
   exact hN28 _ _ _ _ rfl S38 rfl trivial
  intro p39 us40 F41 H42 n43 c44 w45 w46 r47
  have z48 := S.free0 n43
  have S49 := S.call0 c44
  have f_self := f_self.up c44
  have w50 : Ow P0 H0 _ _ _ _ := ⟨w46.fr, w46.at_, .inl z48⟩
  obtain ⟨F51, S52, le53, f54, _, eq55⟩ := fz S49 w50 z48 r47
  have f_self := qRule.mono le53 f_self
  cases hm
  refine rd_nil ?_
  refine rd_any (S52.l f54).r ?_
  exact hQ _ _ _ S52 rfl
def sp_law_ends (K : PySem.W.Frag) : Sp := fun vs H Q _ => ∃ (F : Hp) (a_part_here : Str) (a_line_here : Str) (a_at : Int) (r : (List Int)), vs = [(V.str (a_part_here)), (V.str (a_line_here)), (V.int (a_at))] ∧ Same F H ∧ m_law_ends a_part_here a_line_here a_at = some r ∧ ∀ v F' H', Sx P0 F H F' H' → (qL qI).r K F' v r → Q v H'
theorem sc_law_ends : FnScope ["_law_part_here", "_law_line_here", "_law_at", "_law_found", "_law_taken", "_law_end"] ["_law_part_here", "_law_line_here", "_law_at"] (defScope s_law_ends) := ⟨rfl, rfl, rfl, by decide +kernel, rfl, by decide +kernel, by decide +kernel⟩
theorem bn_law_ends (T : Tx P K mg) : Binds K (fdOf K ("_law_ends", none)) ["_law_part_here", "_law_line_here", "_law_at"] [] := FunD.bindsN T.F_law_ends fun _ _ _ _ _ _ us hl => match us, hl with | [_, _, _], _ => rfl
theorem ok_law_ends (T : Tx P K mg) : FnOk P w K mg base CX0 1 (He.ga K "_law_ends") (fdOf K ("_law_ends", none)) ["_law_part_here", "_law_line_here", "_law_at"] (sp_law_ends K) := by
 refine FunD.ok T.F_law_ends sc_law_ends (fun vs H0 Q E h => ?_) (fun cdv A outer s H0 vs Q E hr h => ?_)
 ·
  obtain ⟨_, _, _, _, _, rfl, _⟩ := h
  rfl
 ·
  obtain ⟨F0, a_part_here, a_line_here, a_at, r, rfl, hE, hm, hQ⟩ := h
  refine ⟨_, PSs.nox ((pss_cons (ps_if (pt_cmpR op_eqS (pv 0) pe_str (nomark _)) (pss_one (ps_ret (pe_listRg rfl (by rfl) T.n_list (prg_2 (by rfl) T.n_range (pv 2) (pe_op op_add (pe_callB cr_lenS (by rfl) T.n_len (by decide +kernel) (pa_cons (pv 1) pa_nil)) pe_int))))) pss_nil) (pss_cons (ps_set (i := 3) sc_law_ends.nd rfl (dk rfl) (pe_lst pa_nil)) (C8.pss_cut (ps_if (pt_cmpR (r := rIn K false) op_in_seq (pv 0) (pe_tup (pa_cons pe_str (pa_cons pe_str pa_nil))) rfl) (pss_cons (ps_set (i := 4) sc_law_ends.nd rfl (dk rfl) pe_str) (C8.pss_cut (ps_if (pt_cmpR op_eqS (pv 0) pe_str (nomark _)) (pss_one (ps_set (i := 4) sc_law_ends.nd rfl (dk rfl) pe_str)) pss_nil) (pss_cons (ps_set (i := 5) sc_law_ends.nd rfl (dk rfl) (pv 2)) (pss_one (ps_while PassesOwn.never (PW.pt (pw_and (pt_cmpR op_lt (pv 5) (pe_callB cr_lenS (by rfl) T.n_len (by decide +kernel) (pa_cons (pv 1) pa_nil)) (nomark _)) (pw_and1 (pt_cmpR op_inS (pe_ix ix_str (pv 1) (pv 5) (fun _ _ => rfl)) (pv 4) rfl)))) (pss_cons (ps_set (i := 5) sc_law_ends.nd rfl (dk rfl) (pe_op op_add (pv 5) pe_int)) (pss_one (ps_expr (pe_bmK (K := K) PySem.F.plainAttrs_list PySem.F.slot_list_append PySem.F.type_list_append mt_append (pv 3) (pa_cons (pv 5) pa_nil)))))))))) (pss_one (ps_if (pt_cmpR op_eqS (pe_slice sl_str (pv 1) (po_some (pv 2)) (po_some (pe_op op_add (pv 2) (pe_callB cr_lenS (by rfl) T.n_len (by decide +kernel) (pa_cons (pv 0) pa_nil))))) (pv 0) (nomark _)) (pss_one (ps_expr (pe_bmK (K := K) PySem.F.plainAttrs_list PySem.F.slot_list_append PySem.F.type_list_append mt_append (pv 3) (pa_cons (pe_op op_add (pv 2) (pe_callB cr_lenS (by rfl) T.n_len (by decide +kernel) (pa_cons (pv 0) pa_nil))) pa_nil)))) pss_nil))) (pss_one (ps_ret (pv 3))))))), ?_⟩
  have S : Sx P0 F0 H0 F0 H0 := Sx.refl0 hE
  unfold m_law_ends at hm
  refine rd_seq <| rd_ifS <| rd_test <| rd_op <| rd_v rfl <| rd_c <| rd_S0 <| rd_b ?_
  refine if_b hm (fun b1 hm => ?_) (fun b1 hm => ?_)
  ·
   obtain ⟨g2, hm⟩ := gd_some hm
   obtain ⟨g3, hm⟩ := gd_some hm
   refine rd_ret ?_
   refine rd_lrg ?_
   refine rd_g2 ?_
   refine rd_v rfl <| rd_op <| rd_cb <| rd_cons <| rd_v rfl <| rd_nil ?_
   refine rd_lenS g2 ?_
   refine rd_c <| rd_I0 ?_
   refine rd_g2i ?_
   refine rd_lrgE (K := K) (F := F0) g3 ?_
   refine alL' S (fun v4 F5 H6 c7 f8 => ?_)
   have S9 := S.call0 c7
   cases hm
   exact hQ _ _ _ S9 f8
  ·
   refine rd_next <| rd_seq <| rd_asg <| rd_lst <| rd_nil <| rd_lK rfl ?_
   refine al S (fun p10 H11 np12 c13 w14 => ?_)
   have z16 := S.free0 np12
   have S17 := S.call0 c13
   have r18 : Row qI K F0 [] ([] : List Int) := .nil
   obtain ⟨t19, e20, hm⟩ := bd_some hm
   refine rd_gn ?_
   refine rd_cut (fun σ' H' => ∃ (F : Hp) (o4 : Option V) (o5 : Option V) (vs0 : List V), σ' = [some (V.str (a_part_here)), some (V.str (a_line_here)), some (V.int (a_at)), some (V.ref p10), o4, o5] ∧ Sx (fun a => a = p10) F0 H11 F H' ∧ Ow (fun a => a = p10) H11 F H' p10 (.lst vs0) ∧ Row qI K F vs0 t19) ?_ ?_
   ·
    have S21 : Sx (fun a => a = p10) _ _ _ _ := Sx.refl S17.sub (fun a z => by rw [z, w14.at_]; exact (fun h => nomatch h))
    have w22 : Ow (fun a => a = p10) H11 _ _ _ _ := ⟨w14.fr, w14.at_, .inr (rfl)⟩
    refine rd_ifS <| rd_test <| rd_op <| rd_v rfl <| rd_tup <| rd_cons <| rd_c <| rd_cons <| rd_c <| rd_nil <| rd_uK rfl ?_
    refine alT (K := K) (A := qS) (xs := [("<digits>" : Str), ("<word>" : Str)]) S21 (.cons rfl (.cons rfl .nil)) (fun v23 F24 H25 c26 f27 => ?_)
    have S28 := S21.call0 c26
    have r18 := Row.mono c26.le r18
    have w22 := w22.call0 c26
    refine rd_inS (S28.t f27).q ?_
    refine rd_b ?_
    refine if_b e20 (fun b29 e20 => ?_) (fun b29 e20 => ?_)
    ·
     obtain ⟨t30, e31, e20⟩ := bd_some e20
     refine rd_seq <| rd_asg <| rd_c <| rd_gn ?_
     refine rd_cut (fun σ' H' => ∃ (F : Hp) (o5 : Option V), σ' = [some (V.str (a_part_here)), some (V.str (a_line_here)), some (V.int (a_at)), some (V.ref p10), some (V.str (t30)), o5] ∧ Sx P0 F24 H25 F H') ?_ ?_
     ·
      have S32 := Sx.refl0 S28.sub
      refine rd_ifS <| rd_test <| rd_op <| rd_v rfl <| rd_c <| rd_S0 <| rd_b ?_
      refine if_b e31 (fun b33 e31 => ?_) (fun b33 e31 => ?_)
      ·
       cases e31
       refine rd_asg <| rd_c <| rd_gn ?_
       exact ⟨F24, _, rfl, S32⟩
      ·
       cases e31
       refine rd_next ?_
       exact ⟨F24, _, rfl, S32⟩
     ·
      rintro σ35 H34 ⟨F36, o38, rfl, S37⟩
      have S39 := S28.call0 S37
      have r18 := Row.mono S37.le r18
      have w22 := w22.call0 S37
      obtain ⟨t40, e41, e20⟩ := bd_some e20
      refine rd_seq <| rd_asg <| rd_v rfl <| rd_gn ?_
      refine rd_whileS e41 (fun (s42 : ((List Int) × Int)) σ H => ∃ (F : Hp) (vs0 : List V), σ = [some (V.str (a_part_here)), some (V.str (a_line_here)), some (V.int (a_at)), some (V.ref p10), some (V.str (t30)), some (V.int (s42.2))] ∧ Sx (fun a => a = p10) F36 H34 F H ∧ Ow (fun a => a = p10) H34 F H p10 (.lst vs0) ∧ Row qI K F vs0 s42.1) ?_ ?_ ?_ ?_
      ·
       have S43 : Sx (fun a => a = p10) _ _ _ _ := Sx.refl S39.sub (fun a z => by rw [z, w22.at_]; exact (fun h => nomatch h))
       have w44 : Ow (fun a => a = p10) H34 _ _ _ _ := ⟨w22.fr, w22.at_, .inr (rfl)⟩
       exact ⟨F36, _, rfl, S43, w44, r18⟩
      ·
       rintro s45 b46 σ47 H48 T49 E50 ⟨F54, v56, rfl, S55, w57, r58⟩ hm53 hT51 hE52
       unfold m_law_ends_b1 at hm53
       obtain ⟨g59, hm53⟩ := gd_some hm53
       obtain ⟨t62, e63, hm53⟩ := bd_some hm53
       refine rd_and <| rd_test <| rd_op <| rd_v rfl <| rd_cb <| rd_cons <| rd_v rfl <| rd_nil ?_
       refine rd_lenS g59 ?_
       refine rd_I0 <| rd_b ?_
       refine and_j (fun c H' => c = t62 ∧ ∃ F', Sx P0 F54 H48 F' H') ?_ ?_ ?_
       ·
        intro b64 Q65 q66
        have e63 := if_t e63 b64
        have S67 := Sx.refl0 S55.sub
        obtain ⟨t68, e69, e63⟩ := bd_some e63
        cases e63
        refine rd_test <| rd_op <| rd_op <| rd_v rfl <| rd_v rfl ?_
        refine rd_ixS e69 ?_
        refine rd_v rfl ?_
        refine rd_inSS ?_
        refine rd_b ?_
        exact q66 _ _ ⟨rfl, F54, S67⟩
       ·
        intro b64
        have e63 := if_f e63 b64
        cases e63
        have S70 := Sx.refl0 S55.sub
        exact ⟨rfl, F54, S70⟩
       rintro b74 H72 ⟨rfl, F71, c73⟩
       have S75 := S55.call0 c73
       have r58 := Row.mono c73.le r58
       have w57 := w57.call0 c73
       refine if_j (fun b76 => ?_) (fun b76 => ?_)
       ·
        cases hm53; exact hT51 _ _ b76 ⟨F71, _, rfl, S75, w57, r58⟩
       ·
        cases hm53; exact hE52 _ _ b76 ⟨F71, _, rfl, S75, w57, r58⟩
      ·
       rintro s77 s78 σ79 H80 ⟨F84, v86, rfl, S85, w87, r88⟩ hm81
       unfold m_law_ends_b2 at hm81
       obtain ⟨g89, hm81⟩ := gd_some hm81
       refine rd_seq <| rd_asg <| rd_op <| rd_v rfl <| rd_c <| rd_I0 <| rd_gn <| rd_drop <| rd_bm <| rd_v rfl <| rd_ty w87.ty <| rd_cons <| rd_v rfl <| rd_nil ?_
       refine ap S85 w87 r88 g89 (fun H90 c91 w92 => ?_)
       have r93 := r88.snoc (show qI.r K F84 _ (s77.2 + 1) from rfl)
       have S94 := S85.call1 c91 w87
       have r93 := Row.mono c91.le r93
       cases hm81
       exact ⟨F84, _, rfl, S94, w92, r93⟩
      ·
       rintro σ95 H96 ⟨F97, v99, rfl, S98, w100, r101⟩
       have S102 := S39.call1 S98 w22
       have w103 : Ow (fun a => a = p10) H11 _ _ _ _ := ⟨w100.fr, w100.at_, w22.mine⟩
       cases e20
       exact ⟨F97, _, _, _, rfl, S102, w103, r101⟩
    ·
     obtain ⟨g104, e20⟩ := gd_some e20
     obtain ⟨g105, e20⟩ := gd_some e20
     refine rd_ifS <| rd_test <| rd_op ?_
     refine rd_sl ?_
     refine rd_v rfl ?_
     refine rd_pt ?_
     refine rd_v rfl ?_
     refine rd_i ?_
     refine rd_pt ?_
     refine rd_op <| rd_v rfl <| rd_cb <| rd_cons <| rd_v rfl <| rd_nil ?_
     refine rd_lenS g104 ?_
     refine rd_I0 ?_
     refine rd_i ?_
     refine rd_slS g105 ?_
     refine rd_v rfl <| rd_S0 <| rd_b ?_
     refine if_b e20 (fun b106 e20 => ?_) (fun b106 e20 => ?_)
     ·
      obtain ⟨g107, e20⟩ := gd_some e20
      obtain ⟨g108, e20⟩ := gd_some e20
      refine rd_drop <| rd_bm <| rd_v rfl <| rd_ty w22.ty <| rd_cons <| rd_op <| rd_v rfl <| rd_cb <| rd_cons <| rd_v rfl <| rd_nil ?_
      refine rd_lenS g107 ?_
      refine rd_I0 <| rd_nil ?_
      refine ap S28 w22 r18 g108 (fun H109 c110 w111 => ?_)
      have r112 := r18.snoc (show qI.r K F24 _ (a_at + ((a_part_here).length : Int)) from rfl)
      have S113 := S28.call1 c110 w22
      have r112 := Row.mono c110.le r112
      cases e20
      exact ⟨F24, _, _, _, rfl, S113, w111, r112⟩
     ·
      cases e20
      refine rd_next ?_
      exact ⟨F24, _, _, _, rfl, S28, w22, r18⟩
   ·
    rintro σ115 H114 ⟨F116, o118, o119, v120, rfl, S117, w121, r122⟩
    have S123 := S17.call1 S117 w14
    have w124 : Ow P0 H0 _ _ _ _ := ⟨w121.fr, w121.at_, w14.mine⟩
    obtain ⟨F125, S126, le127, f128, _, eq129⟩ := fz S123 w124 z16 r122
    cases hm
    refine rd_ret <| rd_v rfl ?_
    exact hQ _ _ _ S126 f128
def sp_law_fits (K : PySem.W.Frag) : Sp := fun vs H Q _ => ∃ (F : Hp) (v_parts_here : V) (a_parts_here : (List Str)) (a_line_here : Str) (r : Bool), vs = [v_parts_here, (V.str (a_line_here))] ∧ Same F H ∧ (qL qS).r K F v_parts_here a_parts_here ∧ m_law_fits a_parts_here a_line_here = some r ∧ ∀ v F' H', Sx P0 F H F' H' → qB.r K F' v r → Q v H'
theorem sc_law_fits : FnScope ["_law_parts_here", "_law_line_here", "_law_places", "_law_part_here", "_law_more", "_law_at", "_law_end"] ["_law_parts_here", "_law_line_here"] (defScope s_law_fits) := ⟨rfl, rfl, rfl, by decide +kernel, rfl, by decide +kernel, by decide +kernel⟩
theorem bn_law_fits (T : Tx P K mg) : Binds K (fdOf K ("_law_fits", none)) ["_law_parts_here", "_law_line_here"] [] := FunD.bindsN T.F_law_fits fun _ _ _ _ _ _ us hl => match us, hl with | [_, _], _ => rfl
theorem ok_law_fits (T : Tx P K mg) : FnOk P w K mg base CX0 2 (He.ga K "_law_fits") (fdOf K ("_law_fits", none)) ["_law_parts_here", "_law_line_here"] (sp_law_fits K) := by
 refine FunD.ok T.F_law_fits sc_law_fits (fun vs H0 Q E h => ?_) (fun cdv A outer s H0 vs Q E hr h => ?_)
 ·
  obtain ⟨_, _, _, _, _, rfl, _⟩ := h
  rfl
 ·
  obtain ⟨F0, v_parts_here, a_parts_here, a_line_here, r, rfl, hE, f_parts_here, hm, hQ⟩ := h
  refine ⟨_, PSs.nox ((pss_cons (ps_set (i := 2) sc_law_fits.nd rfl (dk rfl) (pe_lst (pa_cons pe_int pa_nil))) (pss_cons (ps_for PassesOwn.never rfl (pi_listK (pv 0)) (pg_name (i := 3) sc_law_fits.nd rfl (dk rfl)) (pss_cons (ps_set (i := 4) sc_law_fits.nd rfl (dk rfl) (pe_lst pa_nil)) (pss_cons (ps_for PassesOwn.never rfl (pi_listK (pv 2)) (pg_name (i := 5) sc_law_fits.nd rfl (dk rfl)) (pss_one (ps_set (i := 4) sc_law_fits.nd rfl (dk rfl) (pe_op op_cat (pv 4) (pe_lc (own := [("_law_end", 6)]) rfl sc_law_fits.nd (pi_listK (pe_call (ok_law_ends T) (hr.mono (by decide)) (by rfl) T.g_law_ends T.F_law_ends.kp (bn_law_ends T) .nil pass0 (pa_cons (pv 3) (pa_cons (pv 1) (pa_cons (pv 5) pa_nil))))) (blkOk_by (N := ["_law_parts_here", "_law_line_here", "_law_places", "_law_part_here", "_law_more", "_law_at", "_law_end"]) (sc := defScope s_law_fits) (by decide +kernel)) (fun _ _ _ _ _ => pg_name (i := 6) sc_law_fits.nd rfl (Or.inl rfl)) (fun _ _ _ _ _ => (pts_one (pt_cmpR (r := rIn K true) op_notIn_seq (pv 6) (pv 4) rfl))) (fun _ _ _ _ _ => (pv 6))))))) (pss_one (ps_set (i := 2) sc_law_fits.nd rfl (dk rfl) (pv 4)))))) (pss_one (ps_ret (pe_and (pe_cmpR op_neS (pv 1) pe_str (nomark _)) (pe_one (pe_cmpR (r := rIn K false) op_in_seq (pe_callB cr_lenS (by rfl) T.n_len (by decide +kernel) (pa_cons (pv 1) pa_nil)) (pv 2) rfl)))))))), ?_⟩
  have S : Sx P0 F0 H0 F0 H0 := Sx.refl0 hE
  unfold m_law_fits at hm
  refine rd_seq <| rd_asg <| rd_lst <| rd_cons <| rd_c <| rd_nil <| rd_lK rfl ?_
  refine alL (K := K) (A := qI) (xs := ([0] : List Int)) S (.cons rfl .nil) (fun v1 F2 H3 c4 f5 => ?_)
  have S6 := S.call0 c4
  have f_parts_here := f_parts_here.up c4
  refine rd_gn <| rd_seq <| rd_for <| rd_iL <| rd_v rfl ?_
  refine rd_wLF S6 (f_parts_here) (fun p7 vs8 hq9 row10 => ?_)
  obtain ⟨t11, e12, hm⟩ := bd_some hm
  refine rd_forS feedsL (typedRow row10) e12 (fun (s13 : (List Int)) σ H => ∃ (F : Hp) (x0 : V) (o3 : Option V) (o4 : Option V) (o5 : Option V) (o6 : Option V), σ = [some v_parts_here, some (V.str (a_line_here)), some x0, o3, o4, o5, o6] ∧ Sx P0 F2 H3 F H ∧ (qL qI).r K F x0 s13) ?_ ?_ ?_ ?_
  ·
   rintro _ _ _ ⟨_, _, _, _, _, _, _, S14, _⟩
   exact (Same.seq S14.sub (Same.seq S14.le hq9))
  ·
   have S15 := Sx.refl0 S6.sub
   exact ⟨F2, _, _, _, _, _, rfl, S15, f5⟩
  ·
   rintro x16 v17 s18 c22 σ19 H20 f21 ⟨F23, x25, o26, o27, o28, o29, rfl, S24, f30⟩ hm33
   have f_parts_here := f_parts_here.up S24
   unfold m_law_fits_b3 at hm33
   cases (show v17 = (V.str (x16)) from f21)
   refine rd_gn <| rd_seq <| rd_asg <| rd_lst <| rd_nil <| rd_lK rfl ?_
   refine alL (K := K) (A := qI) (xs := ([] : List Int)) S24 .nil (fun v34 F35 H36 c37 f38 => ?_)
   have S39 := S24.call0 c37
   obtain ⟨f_parts_here, f30⟩ := up2 f_parts_here f30 c37
   refine rd_gn <| rd_seq <| rd_for <| rd_iL <| rd_v rfl ?_
   refine rd_wLF S39 (f30) (fun p40 vs41 hq42 row43 => ?_)
   obtain ⟨t44, e45, hm33⟩ := bd_some hm33
   refine rd_forS feedsL (typedRow row43) e45 (fun (s46 : (List Int)) σ H => ∃ (F : Hp) (x0 : V) (o5 : Option V) (o6 : Option V), σ = [some v_parts_here, some (V.str (a_line_here)), some x25, some (V.str (x16)), some x0, o5, o6] ∧ Sx P0 F35 H36 F H ∧ (qL qI).r K F x0 s46) ?_ ?_ ?_ ?_
   ·
    rintro _ _ _ ⟨_, _, _, _, _, S47, _⟩
    exact (Same.seq S47.sub (Same.seq S47.le hq42))
   ·
    have S48 := Sx.refl0 S39.sub
    exact ⟨F35, _, _, _, rfl, S48, f38⟩
   ·
    rintro x49 v50 s51 c55 σ52 H53 f54 ⟨F56, x58, o59, o60, rfl, S57, f61⟩ hm64
    obtain ⟨f_parts_here, f30⟩ := up2 f_parts_here f30 S57
    unfold m_law_fits_b2 at hm64
    cases (show v50 = (V.int (x49)) from f54)
    obtain ⟨t65, e66, hm64⟩ := bd_some hm64
    refine rd_gn <| rd_asg <| rd_op <| rd_v rfl <| rd_lc <| rd_iL <| rd_call <| rd_cons <| rd_v rfl <| rd_cons <| rd_v rfl <| rd_cons <| rd_v rfl <| rd_nil ?_
    refine ⟨F56, _, _, _, t65, rfl, S57.sub, e66, fun v70 F67 H68 c69 f71 => ?_⟩
    have S72 := S57.call0 c69
    obtain ⟨f_parts_here, f30, f61⟩ := up3 f_parts_here f30 f61 c69
    refine rd_wLF S72 (f71) (fun p73 vs74 hq75 row76 => ?_)
    obtain ⟨g77, hm64⟩ := gd_some hm64
    obtain ⟨t78, e79, hm64⟩ := bd_some hm64
    refine rd_comp (B := qI) feedsL (typedRow row76) e79 g77 (Pc := P0) (fun _ z => z.elim) S72.sub (fun (s80 : Unit) F H => True) ?_ ?_ ?_ ?_ ?_ ?_
    ·
     intro _ _ _ S81 _
     exact (Same.seq S81.sub (Same.seq S81.le hq75))
    ·
     trivial
    ·
     intros; trivial
    ·
     intros; trivial
    ·
     intro x82 v83 s84 o85 F86 H87 d88 acc89 f90 S91 w92 w93 n94 hm95 E96 N97 hN98 hE99
     obtain ⟨f_parts_here, f30, f61⟩ := up3 f_parts_here f30 f61 S91
     have S100 := Sx.refl0 S91.sub
     unfold m_law_fits_b1 at hm95
     cases (show v83 = (V.int (x82)) from f90)
     refine rd_gn <| rd_wp rfl <| rd_test <| rd_op <| rd_v rfl <| rd_v rfl ?_
     refine rd_niI (S100.l f61).r.q ?_
     refine rd_b ?_
     refine if_b hm95 (fun b101 hm95 => ?_) (fun b101 hm95 => ?_)
     ·
      cases hm95
      refine rd_v rfl ?_
      exact hN98 _ _ _ _ rfl S100 rfl trivial
     ·
      cases hm95
      exact hE99 _ _ rfl S100 trivial
    intro p102 us103 F104 H105 n106 c107 w108 w109 r110
    have z111 := S72.free0 n106
    have S112 := S72.call0 c107
    obtain ⟨f_parts_here, f30, f61⟩ := up3 f_parts_here f30 f61 c107
    have w113 : Ow P0 H36 _ _ _ _ := ⟨w109.fr, w109.at_, .inl z111⟩
    obtain ⟨F114, S115, le116, f117, _, eq118⟩ := fz S112 w113 z111 r110
    have f_parts_here := (qL qS).mono le116 f_parts_here
    have f30 := (qL qI).mono le116 f30
    have f61 := (qL qI).mono le116 f61
    obtain ⟨g119, hm64⟩ := gd_some hm64
    refine rd_cat (S115.l f61) (S115.l f117) g119 ?_
    refine alL' S115 (fun v120 F121 H122 c123 f124 => ?_)
    have S125 := S115.call0 c123
    obtain ⟨f_parts_here, f30, f61⟩ := up3 f_parts_here f30 f61 c123
    cases hm64
    refine rd_gn ?_
    exact ⟨F121, _, _, _, rfl, S125, f124⟩
   ·
    rintro σ126 H127 ⟨F128, x130, o131, o132, rfl, S129, f133⟩
    have S134 := S39.call0 S129
    obtain ⟨f_parts_here, f30⟩ := up2 f_parts_here f30 S129
    cases hm33
    refine rd_asg <| rd_v rfl <| rd_gn ?_
    exact ⟨F128, _, _, _, _, _, rfl, S134, f133⟩
  ·
   rintro σ135 H136 ⟨F137, x139, o140, o141, o142, o143, rfl, S138, f144⟩
   have S145 := S6.call0 S138
   have f_parts_here := f_parts_here.up S138
   obtain ⟨t147, e148, hm⟩ := bd_some hm
   refine rd_ret <| rd_andV <| rd_op <| rd_v rfl <| rd_c <| rd_S0 <| rd_b ?_
   refine andV_j (fun c H' => c = V.bl t147 ∧ ∃ F', Sx P0 F137 H136 F' H') ?_ ?_ ?_
   ·
    intro b149 Q150 q151
    have e148 := if_t e148 b149
    have S152 := Sx.refl0 S145.sub
    obtain ⟨g153, e148⟩ := gd_some e148
    cases e148
    refine rd_op <| rd_cb <| rd_cons <| rd_v rfl <| rd_nil ?_
    refine rd_lenS g153 ?_
    refine rd_v rfl ?_
    refine rd_inI (S152.l f144).r.q ?_
    exact q151 _ _ ⟨rfl, F137, S152⟩
   ·
    intro b149
    have e148 := if_f e148 b149
    cases e148
    have S154 := Sx.refl0 S145.sub
    exact ⟨rfl, F137, S154⟩
   rintro b158 H156 ⟨rfl, F155, c157⟩
   have S159 := S145.call0 c157
   obtain ⟨f_parts_here, f144⟩ := up2 f_parts_here f144 c157
   cases hm
   exact hQ _ _ _ S159 rfl
def sp_law_bears (K : PySem.W.Frag) : Sp := fun vs H Q _ => ∃ (F : Hp) (v_tree_here : V) (a_tree_here : τ4ₓ) (a_line_here : Str) (r : Bool), vs = [v_tree_here, (V.str (a_line_here))] ∧ Same F H ∧ τ0ₓ.r K F v_tree_here a_tree_here ∧ m_law_bears a_tree_here a_line_here = some r ∧ ∀ v F' H', Sx P0 F H F' H' → qB.r K F' v r → Q v H'
theorem sc_law_bears : FnScope ["_law_tree_here", "_law_line_here"] ["_law_tree_here", "_law_line_here"] (defScope s_law_bears) := ⟨rfl, rfl, rfl, by decide +kernel, rfl, by decide +kernel, by decide +kernel⟩
theorem bn_law_bears (T : Tx P K mg) : Binds K (fdOf K ("_law_bears", none)) ["_law_tree_here", "_law_line_here"] [] := FunD.bindsN T.F_law_bears fun _ _ _ _ _ _ us hl => match us, hl with | [_, _], _ => rfl
theorem ok_law_bears (T : Tx P K mg) : FnOk P w K mg base CX0 3 (He.ga K "_law_bears") (fdOf K ("_law_bears", none)) ["_law_tree_here", "_law_line_here"] (sp_law_bears K) := by
 refine FunD.ok T.F_law_bears sc_law_bears (fun vs H0 Q E h => ?_) (fun cdv A outer s H0 vs Q E hr h => ?_)
 ·
  obtain ⟨_, _, _, _, _, rfl, _⟩ := h
  rfl
 ·
  obtain ⟨F0, v_tree_here, a_tree_here, a_line_here, r, rfl, hE, f_tree_here, hm, hQ⟩ := h
  refine ⟨_, PSs.nox ((pss_cons (ps_if (pt_cmpR op_eqS (pe_ix (r := rIxL K) ix_list (pv 0) pe_int (fun _ _ => rfl)) pe_str (nomark _)) (pss_one (ps_ret (pe_call (ok_law_fits T) (hr.mono (by decide)) (by rfl) T.g_law_fits T.F_law_fits.kp (bn_law_fits T) .nil pass0 (pa_cons (pe_ix (r := rIxL K) ix_list (pv 0) pe_int (fun _ _ => rfl)) (pa_cons (pv 1) pa_nil))))) pss_nil) (pss_cons (ps_if (pt_cmpR op_eqS (pe_ix (r := rIxL K) ix_list (pv 0) pe_int (fun _ _ => rfl)) pe_str (nomark _)) (pss_one (ps_ret (pe_and (pe_call (ok_law_fits T) (hr.mono (by decide)) (by rfl) T.g_law_fits T.F_law_fits.kp (bn_law_fits T) .nil pass0 (pa_cons (pe_ix (r := rIxL K) ix_list (pv 0) pe_int (fun _ _ => rfl)) (pa_cons (pv 1) pa_nil))) (pe_one (pe_call (ok_law_fits T) (hr.mono (by decide)) (by rfl) T.g_law_fits T.F_law_fits.kp (bn_law_fits T) .nil pass0 (pa_cons (pe_ix (r := rIxL K) ix_list (pv 0) pe_int (fun _ _ => rfl)) (pa_cons (pv 1) pa_nil))))))) pss_nil) (pss_one (ps_ret (pe_or (pe_call (ok_law_fits T) (hr.mono (by decide)) (by rfl) T.g_law_fits T.F_law_fits.kp (bn_law_fits T) .nil pass0 (pa_cons (pe_ix (r := rIxL K) ix_list (pv 0) pe_int (fun _ _ => rfl)) (pa_cons (pv 1) pa_nil))) (pe_one (pe_call (ok_law_fits T) (hr.mono (by decide)) (by rfl) T.g_law_fits T.F_law_fits.kp (bn_law_fits T) .nil pass0 (pa_cons (pe_ix (r := rIxL K) ix_list (pv 0) pe_int (fun _ _ => rfl)) (pa_cons (pv 1) pa_nil)))))))))), ?_⟩
  have S : Sx P0 F0 H0 F0 H0 := Sx.refl0 hE
  unfold m_law_bears at hm
  refine rd_seq <| rd_ifS <| rd_test <| rd_op <| rd_op <| rd_v rfl <| rd_c ?_
  refine rd_xLr (i := 0) S f_tree_here ra0 (fun _ _ _ _ r => by obtain ⟨u0, s_u0, rfl, _, u1, s_u1, rfl, _, u2, rfl, _⟩ := r; exact Nat.le_of_ble_eq_true rfl) (fun u1 f2 => ?_)
  cases (show u1 = (V.str ((a_tree_here).1)) from f2)
  refine rd_c <| rd_S0 <| rd_b ?_
  refine if_b hm (fun b3 hm => ?_) (fun b3 hm => ?_)
  ·
   refine rd_ret <| rd_call <| rd_cons <| rd_op <| rd_v rfl <| rd_c ?_
   refine rd_xLr (i := 1) S f_tree_here (raS ra0) (fun _ _ _ _ r => by obtain ⟨u0, s_u0, rfl, _, u1, s_u1, rfl, _, u2, rfl, _⟩ := r; exact Nat.le_of_ble_eq_true rfl) (fun u4 f5 => ?_)
   have f5 : (qL qS).r K F0 u4 (a_tree_here).2.1 := f5
   obtain ⟨t6, e7, hm⟩ := bd_some hm
   refine rd_cons <| rd_v rfl <| rd_nil ?_
   refine ⟨F0, _, _, _, t6, rfl, S.sub, f5, e7, fun v11 F8 H9 c10 f12 => ?_⟩
   have S13 := S.call0 c10
   have f_tree_here := f_tree_here.up c10
   cases (show v11 = (V.bl (t6)) from f12)
   cases hm
   exact hQ _ _ _ S13 rfl
  ·
   refine rd_next <| rd_seq <| rd_ifS <| rd_test <| rd_op <| rd_op <| rd_v rfl <| rd_c ?_
   refine rd_xLr (i := 0) S f_tree_here ra0 (fun _ _ _ _ r => by obtain ⟨u0, s_u0, rfl, _, u1, s_u1, rfl, _, u2, rfl, _⟩ := r; exact Nat.le_of_ble_eq_true rfl) (fun u14 f15 => ?_)
   cases (show u14 = (V.str ((a_tree_here).1)) from f15)
   refine rd_c <| rd_S0 <| rd_b ?_
   refine if_b hm (fun b16 hm => ?_) (fun b16 hm => ?_)
   ·
    refine rd_ret <| rd_andV <| rd_call <| rd_cons <| rd_op <| rd_v rfl <| rd_c ?_
    refine rd_xLr (i := 1) S f_tree_here (raS ra0) (fun _ _ _ _ r => by obtain ⟨u0, s_u0, rfl, _, u1, s_u1, rfl, _, u2, rfl, _⟩ := r; exact Nat.le_of_ble_eq_true rfl) (fun u17 f18 => ?_)
    have f18 : (qL qS).r K F0 u17 (a_tree_here).2.1 := f18
    obtain ⟨t19, e20, hm⟩ := bd_some hm
    refine rd_cons <| rd_v rfl <| rd_nil ?_
    refine ⟨F0, _, _, _, t19, rfl, S.sub, f18, e20, fun v24 F21 H22 c23 f25 => ?_⟩
    have S26 := S.call0 c23
    have f_tree_here := f_tree_here.up c23
    cases (show v24 = (V.bl (t19)) from f25)
    obtain ⟨t37, e38, hm⟩ := bd_some hm
    refine rd_b ?_
    refine andV_j (fun c H' => c = V.bl t37 ∧ ∃ F', Sx P0 F21 H22 F' H') ?_ ?_ ?_
    ·
     intro b39 Q40 q41
     have e38 := if_t e38 b39
     have S42 := Sx.refl0 S26.sub
     refine rd_call <| rd_cons <| rd_op <| rd_v rfl <| rd_c ?_
     refine rd_xLr (i := 2) S42 f_tree_here (raS (raS ra1)) (fun _ _ _ _ r => by obtain ⟨u0, s_u0, rfl, _, u1, s_u1, rfl, _, u2, rfl, _⟩ := r; exact Nat.le_of_ble_eq_true rfl) (fun u43 f44 => ?_)
     have f44 : (qL qS).r K F21 u43 (a_tree_here).2.2 := f44
     obtain ⟨t45, e46, e38⟩ := bd_some e38
     refine rd_cons <| rd_v rfl <| rd_nil ?_
     refine ⟨F21, _, _, _, t45, rfl, S42.sub, f44, e46, fun v50 F47 H48 c49 f51 => ?_⟩
     have S52 := S42.call0 c49
     have f_tree_here := f_tree_here.up c49
     cases (show v50 = (V.bl (t45)) from f51)
     cases e38
     exact q41 _ _ ⟨rfl, F47, S52⟩
    ·
     intro b39
     have e38 := if_f e38 b39
     cases e38
     have S53 := Sx.refl0 S26.sub
     exact ⟨rfl, F21, S53⟩
    rintro b57 H55 ⟨rfl, F54, c56⟩
    have S58 := S26.call0 c56
    have f_tree_here := f_tree_here.up c56
    cases hm
    exact hQ _ _ _ S58 rfl
   ·
    refine rd_next <| rd_ret <| rd_orV <| rd_call <| rd_cons <| rd_op <| rd_v rfl <| rd_c ?_
    refine rd_xLr (i := 1) S f_tree_here (raS ra0) (fun _ _ _ _ r => by obtain ⟨u0, s_u0, rfl, _, u1, s_u1, rfl, _, u2, rfl, _⟩ := r; exact Nat.le_of_ble_eq_true rfl) (fun u59 f60 => ?_)
    have f60 : (qL qS).r K F0 u59 (a_tree_here).2.1 := f60
    obtain ⟨t61, e62, hm⟩ := bd_some hm
    refine rd_cons <| rd_v rfl <| rd_nil ?_
    refine ⟨F0, _, _, _, t61, rfl, S.sub, f60, e62, fun v66 F63 H64 c65 f67 => ?_⟩
    have S68 := S.call0 c65
    have f_tree_here := f_tree_here.up c65
    cases (show v66 = (V.bl (t61)) from f67)
    obtain ⟨t79, e80, hm⟩ := bd_some hm
    refine rd_b ?_
    refine orV_j (fun c H' => c = V.bl t79 ∧ ∃ F', Sx P0 F63 H64 F' H') ?_ ?_ ?_
    ·
     intro b81 Q82 q83
     have e80 := if_f e80 b81
     have S84 := Sx.refl0 S68.sub
     refine rd_call <| rd_cons <| rd_op <| rd_v rfl <| rd_c ?_
     refine rd_xLr (i := 2) S84 f_tree_here (raS (raS ra1)) (fun _ _ _ _ r => by obtain ⟨u0, s_u0, rfl, _, u1, s_u1, rfl, _, u2, rfl, _⟩ := r; exact Nat.le_of_ble_eq_true rfl) (fun u85 f86 => ?_)
     have f86 : (qL qS).r K F63 u85 (a_tree_here).2.2 := f86
     obtain ⟨t87, e88, e80⟩ := bd_some e80
     refine rd_cons <| rd_v rfl <| rd_nil ?_
     refine ⟨F63, _, _, _, t87, rfl, S84.sub, f86, e88, fun v92 F89 H90 c91 f93 => ?_⟩
     have S94 := S84.call0 c91
     have f_tree_here := f_tree_here.up c91
     cases (show v92 = (V.bl (t87)) from f93)
     cases e80
     exact q83 _ _ ⟨rfl, F89, S94⟩
    ·
     intro b81
     have e80 := if_t e80 b81
     cases e80
     have S95 := Sx.refl0 S68.sub
     exact ⟨rfl, F63, S95⟩
    rintro b99 H97 ⟨rfl, F96, c98⟩
    have S100 := S68.call0 c98
    have f_tree_here := f_tree_here.up c98
    cases hm
    exact hQ _ _ _ S100 rfl
def sp_law_marked (K : PySem.W.Frag) : Sp := fun vs H Q _ => ∃ (F : Hp) (v_trees : V) (a_trees : (List τ4ₓ)) (a_line_here : Str) (r : Bool), vs = [v_trees, (V.str (a_line_here))] ∧ Same F H ∧ (qL τ0ₓ).r K F v_trees a_trees ∧ m_law_marked a_trees a_line_here = some r ∧ ∀ v F' H', Sx P0 F H F' H' → qB.r K F' v r → Q v H'
theorem sc_law_marked : FnScope ["_law_trees", "_law_line_here", "_law_tree_here"] ["_law_trees", "_law_line_here"] (defScope s_law_marked) := ⟨rfl, rfl, rfl, by decide +kernel, rfl, by decide +kernel, by decide +kernel⟩
theorem bn_law_marked (T : Tx P K mg) : Binds K (fdOf K ("_law_marked", none)) ["_law_trees", "_law_line_here"] [] := FunD.bindsN T.F_law_marked fun _ _ _ _ _ _ us hl => match us, hl with | [_, _], _ => rfl
theorem ok_law_marked (T : Tx P K mg) : FnOk P w K mg base CX0 4 (He.ga K "_law_marked") (fdOf K ("_law_marked", none)) ["_law_trees", "_law_line_here"] (sp_law_marked K) := by
 refine FunD.ok T.F_law_marked sc_law_marked (fun vs H0 Q E h => ?_) (fun cdv A outer s H0 vs Q E hr h => ?_)
 ·
  obtain ⟨_, _, _, _, _, rfl, _⟩ := h
  rfl
 ·
  obtain ⟨F0, v_trees, a_trees, a_line_here, r, rfl, hE, f_trees, hm, hQ⟩ := h
  refine ⟨_, PSs.nox ((pss_one (ps_ret (pe_cmpR (r := rNeD K) (op_neD hr.units) (pe_lc (own := [("_law_tree_here", 2)]) rfl sc_law_marked.nd (pi_listK (pv 0)) (blkOk_by (N := ["_law_trees", "_law_line_here", "_law_tree_here"]) (sc := defScope s_law_marked) (by decide +kernel)) (fun _ _ _ _ _ => pg_name (i := 2) sc_law_marked.nd rfl (Or.inl rfl)) (fun _ _ _ _ _ => (pts_one (pt_val (pe_call (ok_law_bears T) (hr.mono (by decide)) (by rfl) T.g_law_bears T.F_law_bears.kp (bn_law_bears T) .nil pass0 (pa_cons (pv 2) (pa_cons (pv 1) pa_nil)))))) (fun _ _ _ _ _ => (pv 2))) (pe_lst pa_nil) (nomark _))))), ?_⟩
  have S : Sx P0 F0 H0 F0 H0 := Sx.refl0 hE
  unfold m_law_marked at hm
  refine rd_ret <| rd_op <| rd_lc <| rd_iL <| rd_v rfl ?_
  refine rd_wLF S (f_trees) (fun p1 vs2 hq3 row4 => ?_)
  obtain ⟨g5, hm⟩ := gd_some hm
  obtain ⟨t6, e7, hm⟩ := bd_some hm
  refine rd_comp (B := τ0ₓ) feedsL (typedRow row4) e7 g5 (Pc := P0) (fun _ z => z.elim) S.sub (fun (s8 : Unit) F H => True) ?_ ?_ ?_ ?_ ?_ ?_
  ·
   intro _ _ _ S9 _
   exact (Same.seq S9.sub (Same.seq S9.le hq3))
  ·
   trivial
  ·
   intros; trivial
  ·
   intros; trivial
  ·
   intro x10 v11 s12 o13 F14 H15 d16 acc17 f18 S19 w20 w21 n22 hm23 E24 N25 hN26 hE27
   have f_trees := f_trees.up S19
   have S28 := Sx.refl0 S19.sub
   unfold m_law_marked_b1 at hm23
   have f18 := f18.up S19
   obtain ⟨t29, e30, hm23⟩ := bd_some hm23
   refine rd_gn <| rd_wp rfl <| rd_tB <| rd_call <| rd_cons <| rd_v rfl <| rd_cons <| rd_v rfl <| rd_nil ?_
   refine ⟨F14, _, _, _, t29, rfl, S28.sub, f18, e30, fun v34 F31 H32 c33 f35 => ?_⟩
   have S36 := S28.call0 c33
   obtain ⟨f_trees, f18⟩ := up2 f_trees f18 c33
   cases (show v34 = (V.bl (t29)) from f35)
   refine rd_b ?_
   refine if_b hm23 (fun b37 hm23 => ?_) (fun b37 hm23 => ?_)
   ·
    cases hm23
    refine rd_v rfl ?_
    exact hN26 _ _ _ _ rfl S36 f18 trivial
   ·
    cases hm23
    exact hE27 _ _ rfl S36 trivial
  intro p38 us39 F40 H41 n42 c43 w44 w45 r46
  have z47 := S.free0 n42
  have S48 := S.call0 c43
  have f_trees := f_trees.up c43
  have w49 : Ow P0 H0 _ _ _ _ := ⟨w45.fr, w45.at_, .inl z47⟩
  obtain ⟨F50, S51, le52, f53, _, eq54⟩ := fz S48 w49 z47 r46
  have f_trees := (qL τ0ₓ).mono le52 f_trees
  refine rd_lst <| rd_nil <| rd_lK rfl ?_
  refine alL (K := K) (A := τ0ₓ) (xs := ([] : List τ4ₓ)) S51 .nil (fun v55 F56 H57 c58 f59 => ?_)
  have S60 := S51.call0 c58
  obtain ⟨f_trees, f53⟩ := up2 f_trees f53 c58
  obtain ⟨g61, hm⟩ := gd_some hm
  obtain ⟨g62, hm⟩ := gd_some hm
  cases hm
  refine rd_neD (D := (dL (dLr (ec dS (ec (dL dS) (e1 (dL dS))))))) (S60.d (dL (dLr (ec dS (ec (dL dS) (e1 (dL dS)))))) f53) (S60.d (dL (dLr (ec dS (ec (dL dS) (e1 (dL dS)))))) f59) g61 g62 ?_
  exact hQ _ _ _ S60 rfl
def sp_Rule_ends_on (K : PySem.W.Frag) : Sp := fun vs H Q _ => ∃ (F : Hp) (v_self : V) (a_self : τ3ₓ) (a_line : Str) (r : Bool), vs = [v_self, (V.str (a_line))] ∧ Same F H ∧ qRule.r K F v_self a_self ∧ m_Rule_ends_on a_self a_line = some r ∧ ∀ v F' H', Sx P0 F H F' H' → qB.r K F' v r → Q v H'
theorem sc_Rule_ends_on : FnScope ["self", "line", "mark"] ["self", "line"] (defScope s_Rule_ends_on) := ⟨rfl, rfl, rfl, by decide +kernel, rfl, by decide +kernel, by decide +kernel⟩
theorem bn_Rule_ends_on (T : Tx P K mg) : Binds K (fdOf K ("Rule", some "ends_on")) ["self", "line"] [] := FunD.bindsN T.F_Rule_ends_on fun _ _ _ _ _ _ us hl => match us, hl with | [_, _], _ => rfl
theorem ok_Rule_ends_on (T : Tx P K mg) : FnOk P w K mg base CX0 6 (He.fAd K ("Rule", some "ends_on")) (fdOf K ("Rule", some "ends_on")) ["self", "line"] (sp_Rule_ends_on K) := by
 refine FunD.ok T.F_Rule_ends_on sc_Rule_ends_on (fun vs H0 Q E h => ?_) (fun cdv A outer s H0 vs Q E hr h => ?_)
 ·
  obtain ⟨_, _, _, _, _, rfl, _⟩ := h
  rfl
 ·
  obtain ⟨F0, v_self, a_self, a_line, r, rfl, hE, f_self, hm, hQ⟩ := h
  refine ⟨_, PSs.nox ((pss_one (ps_ret (pe_callB (r := rAnyK K) (cr_anyK rfl) (by rfl) T.n_any (by decide +kernel) (pa_cons (pe_lc (own := [("mark", 2)]) (tt := tYes) rfl sc_Rule_ends_on.nd (pi_listK (pe_fldK (pv 0) rfl)) (blkOk_by (N := ["self", "line", "mark"]) (sc := defScope s_Rule_ends_on) (by decide +kernel)) (fun _ _ _ _ _ => pg_name (i := 2) sc_Rule_ends_on.nd rfl (Or.inl rfl)) (fun _ _ _ _ _ => pts_nil) (fun _ _ _ _ _ => (pe_cmpR (r := rInW P w K mg base 5 false) (op_inW (hr.mono (by decide))) (pv 1) (pv 2) rfl))) pa_nil))))), ?_⟩
  have S : Sx P0 F0 H0 F0 H0 := Sx.refl0 hE
  unfold m_Rule_ends_on at hm
  refine rd_ret <| rd_cb <| rd_cons <| rd_lc <| rd_iL <| rd_fld <| rd_v rfl ?_
  refine fld_Rule_closers T S f_self (fun u1 f2 => ?_)
  refine rd_wLF S (f2) (fun p3 vs4 hq5 row6 => ?_)
  obtain ⟨g7, hm⟩ := gd_some hm
  obtain ⟨t8, e9, hm⟩ := bd_some hm
  refine rd_comp (B := qB) feedsL (typedRow row6) e9 g7 (Pc := P0) (fun _ z => z.elim) S.sub (fun (s10 : Unit) F H => True) ?_ ?_ ?_ ?_ ?_ ?_
  ·
   intro _ _ _ S11 _
   exact (Same.seq S11.sub (Same.seq S11.le hq5))
  ·
   trivial
  ·
   intros; trivial
  ·
   intros; trivial
  ·
   intro x12 v13 s14 o15 F16 H17 d18 acc19 f20 S21 w22 w23 n24 hm25 E26 N27 hN28 hE29
   have f_self := f_self.up S21
   have S30 := Sx.refl0 S21.sub
   unfold m_Rule_ends_on_b1 at hm25
   have f20 := f20.up S21
   refine rd_gn <| rd_wp rfl <| rd_yes <| if_tt <| rd_op <| rd_v rfl <| rd_v rfl ?_
   refine VM.inW (vm_contains T) S30 f20 ?_
   obtain ⟨t31, e32, hm25⟩ := bd_some hm25
   refine ⟨F16, _, _, _, t31, rfl, S30.sub, f20, rfl, e32, fun v36 F33 H34 c35 f37 => ?_⟩
   have S38 := S30.call0 c35
   obtain ⟨f_self, f20⟩ := up2 f_self f20 c35
   cases (show v36 = (V.bl (t31)) from f37)
   cases hm25
   refine rd_inWf ?_
   exact hN28 _ _ _ _ rfl S38 rfl trivial
  intro p39 us40 F41 H42 n43 c44 w45 w46 r47
  have z48 := S.free0 n43
  have S49 := S.call0 c44
  have f_self := f_self.up c44
  have w50 : Ow P0 H0 _ _ _ _ := ⟨w46.fr, w46.at_, .inl z48⟩
  obtain ⟨F51, S52, le53, f54, _, eq55⟩ := fz S49 w50 z48 r47
  have f_self := qRule.mono le53 f_self
  cases hm
  refine rd_nil ?_
  refine rd_any (S52.l f54).r ?_
  exact hQ _ _ _ S52 rfl
def sp_law_lines (K : PySem.W.Frag) : Sp := fun vs H Q _ => ∃ (F : Hp) (p_pool_here : Addr) (a_pool_here : Int × Int) (v_made_rule : V) (a_made_rule : τ3ₓ) (v_rule_here : V) (a_rule_here : τ1ₓ) (r : (Bool × (Int × Int))), vs = [.ref p_pool_here, v_made_rule, v_rule_here] ∧ Same F H ∧ Ow (fun a => a = p_pool_here) H F H p_pool_here (.lst [.int a_pool_here.1, .int a_pool_here.2]) ∧ qRule.r K F v_made_rule a_made_rule ∧ (qLr τ2ₓ).r K F v_rule_here a_rule_here ∧ m_law_lines a_pool_here a_made_rule a_rule_here = some r ∧ ∀ v F' H', Sx (fun a => a = p_pool_here) F H F' H' → Ow (fun a => a = p_pool_here) H F' H' p_pool_here (.lst [.int r.2.1, .int r.2.2]) → qB.r K F' v r.1 → Q v H'
theorem sc_law_lines : FnScope ["_law_pool_here", "_law_made_rule", "_law_rule_here", "_law_turn", "_law_line_here"] ["_law_pool_here", "_law_made_rule", "_law_rule_here"] (defScope s_law_lines) := ⟨rfl, rfl, rfl, by decide +kernel, rfl, by decide +kernel, by decide +kernel⟩
theorem bn_law_lines (T : Tx P K mg) : Binds K (fdOf K ("_law_lines", none)) ["_law_pool_here", "_law_made_rule", "_law_rule_here"] [] := FunD.bindsN T.F_law_lines fun _ _ _ _ _ _ us hl => match us, hl with | [_, _, _], _ => rfl
theorem ok_law_lines (T : Tx P K mg) : FnOk P w K mg base CX0 7 (He.ga K "_law_lines") (fdOf K ("_law_lines", none)) ["_law_pool_here", "_law_made_rule", "_law_rule_here"] (sp_law_lines K) := by
 refine FunD.ok T.F_law_lines sc_law_lines (fun vs H0 Q E h => ?_) (fun cdv A outer s H0 vs Q E hr h => ?_)
 ·
  obtain ⟨_, _, _, _, _, _, _, _, rfl, _⟩ := h
  rfl
 ·
  obtain ⟨F0, p_pool_here, a_pool_here, v_made_rule, a_made_rule, v_rule_here, a_rule_here, r, rfl, hE, w_pool_here, f_made_rule, f_rule_here, hm, hQ⟩ := h
  refine ⟨_, PSs.nox ((pss_cons (ps_for PassesOwn.never rfl (pi_range1 (by rfl) T.n_range (pa_cons pe_int pa_nil)) (pg_name (i := 3) sc_law_lines.nd rfl (dk rfl)) (pss_cons (ps_set (i := 4) sc_law_lines.nd rfl (dk rfl) (pe_call (ok_law_row T) (hr.mono (by decide)) (by rfl) T.g_law_row T.F_law_row.kp (bn_law_row T) .nil pass0 (pa_cons (pv 0) (pa_cons (pv 2) pa_nil)))) (pss_cons (ps_if (pt_cmpR op_neB (pe_meth (pv 1) T.c_Rule T.me_Rule_begins_on (ok_Rule_begins_on T) (hr.mono (by decide)) (bn_Rule_begins_on T) .nil pass0 (pa_cons (pv 4) pa_nil)) (pe_call (ok_law_marked T) (hr.mono (by decide)) (by rfl) T.g_law_marked T.F_law_marked.kp (bn_law_marked T) .nil pass0 (pa_cons (pe_ix (r := rIxL K) ix_list (pv 2) pe_int (fun _ _ => rfl)) (pa_cons (pv 4) pa_nil))) (nomark _)) (pss_one (ps_ret pe_bl)) pss_nil) (pss_one (ps_if (pt_cmpR op_neB (pe_meth (pv 1) T.c_Rule T.me_Rule_ends_on (ok_Rule_ends_on T) (hr.mono (by decide)) (bn_Rule_ends_on T) .nil pass0 (pa_cons (pv 4) pa_nil)) (pe_call (ok_law_marked T) (hr.mono (by decide)) (by rfl) T.g_law_marked T.F_law_marked.kp (bn_law_marked T) .nil pass0 (pa_cons (pe_ix (r := rIxL K) ix_list (pv 2) pe_int (fun _ _ => rfl)) (pa_cons (pv 4) pa_nil))) (nomark _)) (pss_one (ps_ret pe_bl)) pss_nil))))) (pss_one (ps_ret pe_bl)))), ?_⟩
  have S : Sx (fun a => a = p_pool_here) F0 H0 F0 H0 := Sx.refl hE (live1 w_pool_here)
  unfold m_law_lines at hm
  obtain ⟨g1, hm⟩ := gd_some hm
  refine rd_seq <| rd_for ?_
  refine rd_iR1 ?_
  refine rd_cons <| rd_c <| rd_nil ?_
  refine rd_r1 g1 ?_
  obtain ⟨t2, e3, hm⟩ := bd_some hm
  refine rd_forC feedsRg (typedR (K := K) (F := F0)) e3 (fun (s4 : (Int × Int)) σ H => ∃ (F : Hp) (o3 : Option V) (o4 : Option V), σ = [some (V.ref p_pool_here), some v_made_rule, some v_rule_here, o3, o4] ∧ Sx (fun a => a = p_pool_here) F0 H0 F H ∧ Ow (fun a => a = p_pool_here) H0 F H p_pool_here (.lst [V.int s4.1, V.int s4.2])) ?_ ?_ ?_ ?_
  ·
   intro _ _ _ _; trivial
  ·
   have S6 : Sx (fun a => a = p_pool_here) _ _ _ _ := Sx.refl S.sub (fun a z => by rw [z, w_pool_here.at_]; exact (fun h => nomatch h))
   have w7 : Ow (fun a => a = p_pool_here) H0 _ _ _ _ := ⟨w_pool_here.fr, w_pool_here.at_, .inr (rfl)⟩
   exact ⟨F0, _, _, rfl, S6, w7⟩
  ·
   rintro x8 v9 s10 c14 σ11 H12 f13 ⟨F15, o17, o18, rfl, S16, w19⟩ hm22 hbk20 hrt21
   obtain ⟨f_made_rule, f_rule_here⟩ := up2 f_made_rule f_rule_here S16
   unfold m_law_lines_b1 at hm22
   cases (show v9 = (V.int (x8)) from f13)
   obtain ⟨t23, e24, hm22⟩ := bd_some hm22
   refine rd_gn <| rd_seq <| rd_asg <| rd_call <| rd_cons <| rd_v rfl <| rd_cons <| rd_v rfl <| rd_nil ?_
   refine ⟨F15, _, _, _, _, t23, rfl, S16.sub, w19.arg, f_rule_here, e24, fun v28 F25 H26 c27 w30 f29 => ?_⟩
   have S31 := S16.call1 c27 w19
   obtain ⟨f_made_rule, f_rule_here⟩ := up2 f_made_rule f_rule_here c27
   have w32 := w19.back w30
   cases (show v28 = (V.str (t23.1)) from f29)
   refine rd_gn <| rd_seq <| rd_ifS <| rd_test <| rd_op <| rd_meth <| rd_v rfl ?_
   refine mt_Rule_begins_on S31 f_made_rule ?_
   obtain ⟨t33, e34, hm22⟩ := bd_some hm22
   refine rd_cons <| rd_v rfl <| rd_nil ?_
   refine ⟨F25, _, _, _, t33, rfl, S31.sub, f_made_rule, e34, fun v38 F35 H36 c37 f39 => ?_⟩
   have S40 := S31.call0 c37
   obtain ⟨f_made_rule, f_rule_here⟩ := up2 f_made_rule f_rule_here c37
   have w32 := w32.call0 c37
   cases (show v38 = (V.bl (t33)) from f39)
   refine rd_call <| rd_cons <| rd_op <| rd_v rfl <| rd_c ?_
   refine rd_xLr (i := 0) S40 f_rule_here ra0 (fun _ _ _ _ r => by obtain ⟨u0, s_u0, rfl, _, u1, s_u1, rfl, _, u2, s_u2, rfl, _, u3, s_u3, rfl, _, u4, s_u4, rfl, _, u5, rfl, _⟩ := r; exact Nat.le_of_ble_eq_true rfl) (fun u41 f42 => ?_)
   have f42 : (qL τ0ₓ).r K F35 u41 (a_rule_here).1 := f42
   obtain ⟨t43, e44, hm22⟩ := bd_some hm22
   refine rd_cons <| rd_v rfl <| rd_nil ?_
   refine ⟨F35, _, _, _, t43, rfl, S40.sub, f42, e44, fun v48 F45 H46 c47 f49 => ?_⟩
   have S50 := S40.call0 c47
   obtain ⟨f_made_rule, f_rule_here⟩ := up2 f_made_rule f_rule_here c47
   have w32 := w32.call0 c47
   cases (show v48 = (V.bl (t43)) from f49)
   refine rd_B0 <| rd_b ?_
   refine if_b hm22 (fun b51 hm22 => ?_) (fun b51 hm22 => ?_)
   ·
    cases hm22
    have e52 := hrt21 _ rfl
    subst e52
    have hm := aft_rt hm
    have S53 := S.call1 S50 w_pool_here
    have w54 : Ow (fun a => a = p_pool_here) H0 _ _ _ _ := ⟨w32.fr, w32.at_, w_pool_here.mine⟩
    cases hm
    refine rd_ret <| rd_c ?_
    exact hQ _ _ _ S53 w54 rfl
   ·
    refine rd_next <| rd_ifS <| rd_test <| rd_op <| rd_meth <| rd_v rfl ?_
    refine mt_Rule_ends_on S50 f_made_rule ?_
    obtain ⟨t55, e56, hm22⟩ := bd_some hm22
    refine rd_cons <| rd_v rfl <| rd_nil ?_
    refine ⟨F45, _, _, _, t55, rfl, S50.sub, f_made_rule, e56, fun v60 F57 H58 c59 f61 => ?_⟩
    have S62 := S50.call0 c59
    obtain ⟨f_made_rule, f_rule_here⟩ := up2 f_made_rule f_rule_here c59
    have w32 := w32.call0 c59
    cases (show v60 = (V.bl (t55)) from f61)
    refine rd_call <| rd_cons <| rd_op <| rd_v rfl <| rd_c ?_
    refine rd_xLr (i := 1) S62 f_rule_here (raS ra0) (fun _ _ _ _ r => by obtain ⟨u0, s_u0, rfl, _, u1, s_u1, rfl, _, u2, s_u2, rfl, _, u3, s_u3, rfl, _, u4, s_u4, rfl, _, u5, rfl, _⟩ := r; exact Nat.le_of_ble_eq_true rfl) (fun u63 f64 => ?_)
    have f64 : (qL τ0ₓ).r K F57 u63 (a_rule_here).2.1 := f64
    obtain ⟨t65, e66, hm22⟩ := bd_some hm22
    refine rd_cons <| rd_v rfl <| rd_nil ?_
    refine ⟨F57, _, _, _, t65, rfl, S62.sub, f64, e66, fun v70 F67 H68 c69 f71 => ?_⟩
    have S72 := S62.call0 c69
    obtain ⟨f_made_rule, f_rule_here⟩ := up2 f_made_rule f_rule_here c69
    have w32 := w32.call0 c69
    cases (show v70 = (V.bl (t65)) from f71)
    refine rd_B0 <| rd_b ?_
    refine if_b hm22 (fun b73 hm22 => ?_) (fun b73 hm22 => ?_)
    ·
     cases hm22
     have e74 := hrt21 _ rfl
     subst e74
     have hm := aft_rt hm
     have S75 := S.call1 S72 w_pool_here
     have w76 : Ow (fun a => a = p_pool_here) H0 _ _ _ _ := ⟨w32.fr, w32.at_, w_pool_here.mine⟩
     cases hm
     refine rd_ret <| rd_c ?_
     exact hQ _ _ _ S75 w76 rfl
    ·
     cases hm22
     refine rd_next ?_
     exact ⟨_, rfl, ⟨F67, _, _, rfl, S72, w32⟩⟩
  ·
   rintro s79 σ77 H78 e80 ⟨F81, o83, o84, rfl, S82, w85⟩
   subst e80
   have hm := aft_nx hm
   have S86 := S.call1 S82 w_pool_here
   obtain ⟨f_made_rule, f_rule_here⟩ := up2 f_made_rule f_rule_here S82
   have w87 : Ow (fun a => a = p_pool_here) H0 _ _ _ _ := ⟨w85.fr, w85.at_, w_pool_here.mine⟩
   cases hm
   refine rd_ret <| rd_c ?_
   exact hQ _ _ _ S86 w87 rfl
def sp_law_right (K : PySem.W.Frag) : Sp := fun vs H Q _ => ∃ (F : Hp) (p_pool_here : Addr) (a_pool_here : Int × Int) (v_rule_here : V) (a_rule_here : τ1ₓ) (v_other_here : V) (a_other_here : τ1ₓ) (r : (Bool × (Int × Int))), vs = [.ref p_pool_here, v_rule_here, v_other_here] ∧ Same F H ∧ Ow (fun a => a = p_pool_here) H F H p_pool_here (.lst [.int a_pool_here.1, .int a_pool_here.2]) ∧ (qLr τ2ₓ).r K F v_rule_here a_rule_here ∧ (qLr τ2ₓ).r K F v_other_here a_other_here ∧ m_law_right a_pool_here a_rule_here a_other_here = some r ∧ ∀ v F' H', Sx (fun a => a = p_pool_here) F H F' H' → Ow (fun a => a = p_pool_here) H F' H' p_pool_here (.lst [.int r.2.1, .int r.2.2]) → qB.r K F' v r.1 → Q v H'
theorem sc_law_right : FnScope ["_law_pool_here", "_law_rule_here", "_law_other_here", "_law_one", "_law_two", "_law_due"] ["_law_pool_here", "_law_rule_here", "_law_other_here"] (defScope s_law_right) := ⟨rfl, rfl, rfl, by decide +kernel, rfl, by decide +kernel, by decide +kernel⟩
theorem bn_law_right (T : Tx P K mg) : Binds K (fdOf K ("_law_right", none)) ["_law_pool_here", "_law_rule_here", "_law_other_here"] [] := FunD.bindsN T.F_law_right fun _ _ _ _ _ _ us hl => match us, hl with | [_, _, _], _ => rfl
theorem ok_law_right (T : Tx P K mg) : FnOk P w K mg base CX0 16 (He.ga K "_law_right") (fdOf K ("_law_right", none)) ["_law_pool_here", "_law_rule_here", "_law_other_here"] (sp_law_right K) := by
 refine FunD.ok T.F_law_right sc_law_right (fun vs H0 Q E h => ?_) (fun cdv A outer s H0 vs Q E hr h => ?_)
 ·
  obtain ⟨_, _, _, _, _, _, _, _, rfl, _⟩ := h
  rfl
 ·
  obtain ⟨F0, p_pool_here, a_pool_here, v_rule_here, a_rule_here, v_other_here, a_other_here, r, rfl, hE, w_pool_here, f_rule_here, f_other_here, hm, hQ⟩ := h
  refine ⟨_, PSs.nox ((pss_cons (ps_set (i := 3) sc_law_right.nd rfl (dk rfl) (pe_call (ok_law_ruled T) (hr.mono (by decide)) (by rfl) T.g_law_ruled T.F_law_ruled.kp (bn_law_ruled T) .nil pass0 (pa_cons (pv 1) pa_nil))) (pss_cons (ps_set (i := 4) sc_law_right.nd rfl (dk rfl) (pe_call (ok_law_ruled T) (hr.mono (by decide)) (by rfl) T.g_law_ruled T.F_law_ruled.kp (bn_law_ruled T) .nil pass0 (pa_cons (pv 2) pa_nil))) (pss_cons (ps_set (i := 5) sc_law_right.nd rfl (dk rfl) (pe_lst (pa_cons (pe_call (ok_law_part T) (hr.mono (by decide)) (by rfl) T.g_law_part T.F_law_part.kp (bn_law_part T) .nil pass0 (pa_cons (pv 1) (pa_cons (pv 2) pa_nil))) (pa_cons (pe_call (ok_law_part T) (hr.mono (by decide)) (by rfl) T.g_law_part T.F_law_part.kp (bn_law_part T) .nil pass0 (pa_cons (pv 2) (pa_cons (pv 1) pa_nil))) pa_nil)))) (pss_cons (ps_if (pt_cmpR (r := rNeD K) (op_neD hr.units) (pe_lst (pa_cons (pe_meth (pv 3) T.c_Rule T.me_Rule_is_part_of (ok_Rule_is_part_of T) (hr.mono (by decide)) (bn_Rule_is_part_of T) .nil pass0 (pa_cons (pv 4) pa_nil)) (pa_cons (pe_meth (pv 4) T.c_Rule T.me_Rule_is_part_of (ok_Rule_is_part_of T) (hr.mono (by decide)) (bn_Rule_is_part_of T) .nil pass0 (pa_cons (pv 3) pa_nil)) pa_nil))) (pv 5) (nomark _)) (pss_one (ps_ret pe_bl)) pss_nil) (pss_cons (ps_if (PW.pt (pw_or (pt_cmpR op_neB (pe_cmpR (r := rEqO K _ (sp_Rule___eq__ K) _) (op_eqO (ok_Rule___eq__ T) (hr.mono (by decide)) (bn_Rule___eq__ T) pass0) (pv 3) (pv 4) (nomark _)) (pe_cmpR (r := rEqD K) (op_eqD hr.units) (pv 5) (pe_lst (pa_cons pe_bl (pa_cons pe_bl pa_nil))) (nomark _)) (nomark _)) (pw_or (pt_cmpR (r := rEqOI K _ (sp_Rule___eq___vi K) _) (op_eqOI (ok_Rule___eq___vi T) (hr.mono (by decide)) (bn_Rule___eq___vi T) pass0) (pv 3) pe_int (nomark _)) (pw_or1 (pt_cmpR (r := rEqO K _ (sp_Rule___eq___vp K) _) (op_eqO (ok_Rule___eq___vp T) (hr.mono (by decide)) (bn_Rule___eq___vp T) pass0) (pv 3) (StX.pe_makeR T.mk_Form (ok_Form___init__ T) (hr.mono (by decide)) (by rfl) T.gc_Form pass0 (pa_cons pe_str pa_nil)) (nomark _)))))) (pss_one (ps_ret pe_bl)) pss_nil) (pss_one (ps_ret (pe_and (pe_call (ok_law_lines T) (hr.mono (by decide)) (by rfl) T.g_law_lines T.F_law_lines.kp (bn_law_lines T) .nil pass0 (pa_cons (pv 0) (pa_cons (pv 3) (pa_cons (pv 1) pa_nil)))) (pe_one (pe_call (ok_law_lines T) (hr.mono (by decide)) (by rfl) T.g_law_lines T.F_law_lines.kp (bn_law_lines T) .nil pass0 (pa_cons (pv 0) (pa_cons (pv 4) (pa_cons (pv 2) pa_nil)))))))))))))), ?_⟩
  have S : Sx (fun a => a = p_pool_here) F0 H0 F0 H0 := Sx.refl hE (live1 w_pool_here)
  unfold m_law_right at hm
  obtain ⟨t1, e2, hm⟩ := bd_some hm
  refine rd_seq <| rd_asg <| rd_call <| rd_cons <| rd_v rfl <| rd_nil ?_
  refine ⟨F0, _, _, t1, rfl, S.sub, f_rule_here, e2, fun v6 F3 H4 c5 f7 => ?_⟩
  have S8 := S.call0 c5
  obtain ⟨f_rule_here, f_other_here⟩ := up2 f_rule_here f_other_here c5
  have w_pool_here := w_pool_here.call0 c5
  obtain ⟨t9, e10, hm⟩ := bd_some hm
  refine rd_gn <| rd_seq <| rd_asg <| rd_call <| rd_cons <| rd_v rfl <| rd_nil ?_
  refine ⟨F3, _, _, t9, rfl, S8.sub, f_other_here, e10, fun v14 F11 H12 c13 f15 => ?_⟩
  have S16 := S8.call0 c13
  obtain ⟨f_rule_here, f_other_here, f7⟩ := up3 f_rule_here f_other_here f7 c13
  have w_pool_here := w_pool_here.call0 c13
  obtain ⟨t17, e18, hm⟩ := bd_some hm
  refine rd_gn <| rd_seq <| rd_asg <| rd_lst <| rd_cons <| rd_call <| rd_cons <| rd_v rfl <| rd_cons <| rd_v rfl <| rd_nil ?_
  refine ⟨F11, _, _, _, _, t17, rfl, S16.sub, f_rule_here, f_other_here, e18, fun v22 F19 H20 c21 f23 => ?_⟩
  have S24 := S16.call0 c21
  obtain ⟨f_rule_here, f_other_here, f7, f15⟩ := up4 f_rule_here f_other_here f7 f15 c21
  have w_pool_here := w_pool_here.call0 c21
  cases (show v22 = (V.bl (t17)) from f23)
  obtain ⟨t25, e26, hm⟩ := bd_some hm
  refine rd_cons <| rd_call <| rd_cons <| rd_v rfl <| rd_cons <| rd_v rfl <| rd_nil ?_
  refine ⟨F19, _, _, _, _, t25, rfl, S24.sub, f_other_here, f_rule_here, e26, fun v30 F27 H28 c29 f31 => ?_⟩
  have S32 := S24.call0 c29
  obtain ⟨f_rule_here, f_other_here, f7, f15⟩ := up4 f_rule_here f_other_here f7 f15 c29
  have w_pool_here := w_pool_here.call0 c29
  cases (show v30 = (V.bl (t25)) from f31)
  refine rd_nil <| rd_lK rfl ?_
  refine alL (K := K) (A := qB) (xs := [t17, t25]) S32 (.cons rfl (.cons rfl .nil)) (fun v33 F34 H35 c36 f37 => ?_)
  have S38 := S32.call0 c36
  obtain ⟨f_rule_here, f_other_here, f7, f15⟩ := up4 f_rule_here f_other_here f7 f15 c36
  have w_pool_here := w_pool_here.call0 c36
  refine rd_gn <| rd_seq <| rd_ifS <| rd_test <| rd_op <| rd_lst <| rd_cons <| rd_meth <| rd_v rfl ?_
  refine mt_Rule_is_part_of S38 f7 ?_
  obtain ⟨t39, e40, hm⟩ := bd_some hm
  refine rd_cons <| rd_v rfl <| rd_nil ?_
  refine ⟨F34, _, _, _, _, t39, rfl, S38.sub, f7, f15, e40, fun v44 F41 H42 c43 f45 => ?_⟩
  have S46 := S38.call0 c43
  obtain ⟨f_rule_here, f_other_here, f7, f15, f37⟩ := up5 f_rule_here f_other_here f7 f15 f37 c43
  have w_pool_here := w_pool_here.call0 c43
  cases (show v44 = (V.bl (t39)) from f45)
  refine rd_cons <| rd_meth <| rd_v rfl ?_
  refine mt_Rule_is_part_of S46 f15 ?_
  obtain ⟨t47, e48, hm⟩ := bd_some hm
  refine rd_cons <| rd_v rfl <| rd_nil ?_
  refine ⟨F41, _, _, _, _, t47, rfl, S46.sub, f15, f7, e48, fun v52 F49 H50 c51 f53 => ?_⟩
  have S54 := S46.call0 c51
  obtain ⟨f_rule_here, f_other_here, f7, f15, f37⟩ := up5 f_rule_here f_other_here f7 f15 f37 c51
  have w_pool_here := w_pool_here.call0 c51
  cases (show v52 = (V.bl (t47)) from f53)
  refine rd_nil <| rd_lK rfl ?_
  refine alL (K := K) (A := qB) (xs := [t39, t47]) S54 (.cons rfl (.cons rfl .nil)) (fun v55 F56 H57 c58 f59 => ?_)
  have S60 := S54.call0 c58
  obtain ⟨f_rule_here, f_other_here, f7, f15, f37⟩ := up5 f_rule_here f_other_here f7 f15 f37 c58
  have w_pool_here := w_pool_here.call0 c58
  obtain ⟨g61, hm⟩ := gd_some hm
  obtain ⟨g62, hm⟩ := gd_some hm
  refine rd_v rfl ?_
  refine rd_neD (D := (dL dB)) (S60.d (dL dB) f59) (S60.d (dL dB) f37) g61 g62 ?_
  refine rd_b ?_
  refine if_b hm (fun b63 hm => ?_) (fun b63 hm => ?_)
  ·
   cases hm
   refine rd_ret <| rd_c ?_
   exact hQ _ _ _ S60 w_pool_here rfl
  ·
   obtain ⟨t64, e65, hm⟩ := bd_some hm
   refine rd_next <| rd_seq <| rd_ifS <| rd_or <| rd_test <| rd_op <| rd_op <| rd_v rfl <| rd_v rfl ?_
   refine oe_Rule T.oe_Rule S60 f7 f15 ?_
   refine ⟨F56, _, _, _, _, t64, rfl, S60.sub, f7, f15, e65, fun v69 F66 H67 c68 f70 => ?_⟩
   have S71 := S60.call0 c68
   obtain ⟨f_rule_here, f_other_here, f7, f15, f37⟩ := up5 f_rule_here f_other_here f7 f15 f37 c68
   have w_pool_here := w_pool_here.call0 c68
   cases (show v69 = (V.bl (t64)) from f70)
   refine rd_op <| rd_v rfl <| rd_lst <| rd_cons <| rd_c <| rd_cons <| rd_c <| rd_nil <| rd_lK rfl ?_
   refine alL (K := K) (A := qB) (xs := [true, true]) S71 (.cons rfl (.cons rfl .nil)) (fun v72 F73 H74 c75 f76 => ?_)
   have S77 := S71.call0 c75
   obtain ⟨f_rule_here, f_other_here, f7, f15, f37⟩ := up5 f_rule_here f_other_here f7 f15 f37 c75
   have w_pool_here := w_pool_here.call0 c75
   obtain ⟨g78, hm⟩ := gd_some hm
   obtain ⟨g79, hm⟩ := gd_some hm
   obtain ⟨t134, e135, hm⟩ := bd_some hm
   refine rd_eqD (D := (dL dB)) (S77.d (dL dB) f37) (S77.d (dL dB) f76) g78 g79 ?_
   refine rd_B0 <| rd_b ?_
   refine or_j (fun c H' => c = t134 ∧ ∃ F', Sx P0 F73 H74 F' H') ?_ ?_ ?_
   ·
    intro b136 Q137 q138
    have e135 := if_f e135 b136
    have S139 := Sx.refl0 S77.sub
    obtain ⟨t140, e141, e135⟩ := bd_some e135
    refine rd_or <| rd_test <| rd_op <| rd_v rfl <| rd_c ?_
    refine oei_Rule T.oe_Rule S139 f7 ?_
    refine ⟨F73, _, _, _, t140, rfl, S139.sub, f7, e141, fun v145 F142 H143 c144 f146 => ?_⟩
    have S147 := S139.call0 c144
    obtain ⟨f_rule_here, f_other_here, f7, f15, f37⟩ := up5 f_rule_here f_other_here f7 f15 f37 c144
    have w_pool_here := w_pool_here.call0 c144
    cases (show v145 = (V.bl (t140)) from f146)
    obtain ⟨t165, e166, e135⟩ := bd_some e135
    refine rd_b ?_
    refine or_j (fun c H' => c = t165 ∧ ∃ F', Sx P0 F142 H143 F' H') ?_ ?_ ?_
    ·
     intro b167 Q168 q169
     have e166 := if_f e166 b167
     have S170 := Sx.refl0 S147.sub
     obtain ⟨t171, e172, e166⟩ := bd_some e166
     refine rd_test <| rd_op <| rd_v rfl ?_
     refine rd_makeR ?_
     refine rd_cons <| rd_c <| rd_nil ?_
     refine new_Form S170 (.cons rfl .nil) rfl e172 (fun v173 F174 H175 c176 f177 => ?_)
     have S178 := S170.call0 c176
     obtain ⟨f_rule_here, f_other_here, f7, f15, f37⟩ := up5 f_rule_here f_other_here f7 f15 f37 c176
     have w_pool_here := w_pool_here.call0 c176
     have f179 : qPat.r K F174 v173 (Pat.form t171) := (show qPat.r K F174 v173 _ from f177)
     obtain ⟨t180, e181, e166⟩ := bd_some e166
     refine oep_Rule T.oe_Rule S178 f7 f179 ?_
     refine ⟨F174, _, _, _, _, t180, rfl, S178.sub, f7, f179, e181, fun v185 F182 H183 c184 f186 => ?_⟩
     have S187 := S178.call0 c184
     obtain ⟨f_rule_here, f_other_here, f7, f15, f37⟩ := up5 f_rule_here f_other_here f7 f15 f37 c184
     have w_pool_here := w_pool_here.call0 c184
     cases (show v185 = (V.bl (t180)) from f186)
     cases e166
     refine rd_b ?_
     exact q169 _ _ ⟨rfl, F182, S187⟩
    ·
     intro b167
     have e166 := if_t e166 b167
     cases e166
     have S188 := Sx.refl0 S147.sub
     exact ⟨rfl, F142, S188⟩
    rintro b192 H190 ⟨rfl, F189, c191⟩
    have S193 := S147.call0 c191
    obtain ⟨f_rule_here, f_other_here, f7, f15, f37⟩ := up5 f_rule_here f_other_here f7 f15 f37 c191
    have w_pool_here := w_pool_here.call0 c191
    cases e135
    exact q138 _ _ ⟨rfl, F189, S193⟩
   ·
    intro b136
    have e135 := if_t e135 b136
    cases e135
    have S194 := Sx.refl0 S77.sub
    exact ⟨rfl, F73, S194⟩
   rintro b198 H196 ⟨rfl, F195, c197⟩
   have S199 := S77.call0 c197
   obtain ⟨f_rule_here, f_other_here, f7, f15, f37⟩ := up5 f_rule_here f_other_here f7 f15 f37 c197
   have w_pool_here := w_pool_here.call0 c197
   refine if_b hm (fun b200 hm => ?_) (fun b200 hm => ?_)
   ·
    cases hm
    refine rd_ret <| rd_c ?_
    exact hQ _ _ _ S199 w_pool_here rfl
   ·
    obtain ⟨t201, e202, hm⟩ := bd_some hm
    refine rd_next <| rd_ret <| rd_andV <| rd_call <| rd_cons <| rd_v rfl <| rd_cons <| rd_v rfl <| rd_cons <| rd_v rfl <| rd_nil ?_
    refine ⟨F195, _, _, _, _, _, _, t201, rfl, S199.sub, w_pool_here.arg, f7, f_rule_here, e202, fun v206 F203 H204 c205 w208 f207 => ?_⟩
    have S209 := S199.call1 c205 w_pool_here
    obtain ⟨f_rule_here, f_other_here, f7, f15, f37⟩ := up5 f_rule_here f_other_here f7 f15 f37 c205
    have w210 := w_pool_here.back w208
    cases (show v206 = (V.bl (t201.1)) from f207)
    obtain ⟨t221, e222, hm⟩ := bd_some hm
    refine rd_b ?_
    refine andV_j (fun c H' => c = V.bl t221.1 ∧ ∃ F', Sx (fun a => a = p_pool_here) F203 H204 F' H' ∧ Ow (fun a => a = p_pool_here) H204 F' H' p_pool_here (.lst [V.int t221.2.1, V.int t221.2.2])) ?_ ?_ ?_
    ·
     intro b223 Q224 q225
     have e222 := if_t e222 b223
     have S226 : Sx (fun a => a = p_pool_here) _ _ _ _ := Sx.refl S209.sub (fun a z => by rw [z, w210.at_]; exact (fun h => nomatch h))
     have w227 : Ow (fun a => a = p_pool_here) H204 _ _ _ _ := ⟨w210.fr, w210.at_, .inr (rfl)⟩
     obtain ⟨t228, e229, e222⟩ := bd_some e222
     refine rd_call <| rd_cons <| rd_v rfl <| rd_cons <| rd_v rfl <| rd_cons <| rd_v rfl <| rd_nil ?_
     refine ⟨F203, _, _, _, _, _, _, t228, rfl, S226.sub, w227.arg, f15, f_other_here, e229, fun v233 F230 H231 c232 w235 f234 => ?_⟩
     have S236 := S226.call1 c232 w227
     obtain ⟨f_rule_here, f_other_here, f7, f15, f37⟩ := up5 f_rule_here f_other_here f7 f15 f37 c232
     have w237 := w227.back w235
     cases (show v233 = (V.bl (t228.1)) from f234)
     cases e222
     exact q225 _ _ ⟨rfl, F230, S236, w237⟩
    ·
     intro b223
     have e222 := if_f e222 b223
     cases e222
     have S238 : Sx (fun a => a = p_pool_here) _ _ _ _ := Sx.refl S209.sub (fun a z => by rw [z, w210.at_]; exact (fun h => nomatch h))
     have w239 : Ow (fun a => a = p_pool_here) H204 _ _ _ _ := ⟨w210.fr, w210.at_, .inr (rfl)⟩
     exact ⟨rfl, F203, S238, w239⟩
    rintro b243 H241 ⟨rfl, F240, c242, w244⟩
    have S245 := S209.call1 c242 w210
    obtain ⟨f_rule_here, f_other_here, f7, f15, f37⟩ := up5 f_rule_here f_other_here f7 f15 f37 c242
    have w246 : Ow (fun a => a = p_pool_here) H0 _ _ _ _ := ⟨w244.fr, w244.at_, w210.mine⟩
    cases hm
    exact hQ _ _ _ S245 w246 rfl
def sp_Rule_by_first (K : PySem.W.Frag) : Sp := fun vs H Q _ => ∃ (F : Hp) (v_patterns : V) (a_patterns : (List Pat)) (r : τ3ₓ), vs = [v_patterns] ∧ Same F H ∧ (qT qPat).r K F v_patterns a_patterns ∧ m_Rule_by_first a_patterns = some r ∧ ∀ v F' H', Sx P0 F H F' H' → qRule.r K F' v r → Q v H'
theorem sc_Rule_by_first : FnScope ["patterns"] ["patterns"] (defScope s_Rule_by_first) := ⟨rfl, rfl, rfl, by decide +kernel, rfl, by decide +kernel, by decide +kernel⟩
theorem ok_Rule_by_first (T : Tx P K mg) : FnR P w K mg base CX0 5 (sgA K "Rule" "by_first") (starSp 0 (sp_Rule_by_first K)) := by
 obtain ⟨oc, od, dV, kV, doc, pm, an, cdv, ct, osl, efd, lk, hcd, hD, _⟩ := T.sm_Rule_by_first.F.ex
 rw [efd] at lk
 obtain ⟨_, rfl⟩ | ⟨nD, _⟩ := hD
 rotate_left
 ·
  exact absurd rfl nD
 refine StX.fn_star (ps := []) (pv := "patterns") lk hcd sc_Rule_by_first StX.cxUp_none (fun us rest hl => bind_star0 (pv := "patterns") (B := fun us => bindArgs (PySem.W.fnOf _ _ _ _ _ .none kV doc pm an cdv ct) ⟨us, []⟩) (by rfl) (fun r rs => by rfl) us rest hl) (fun A outer s H0 vs Q E hr h => ?_)
 ·
  obtain ⟨F0, v_patterns, a_patterns, r, rfl, hE, f_patterns, hm, hQ⟩ := h
  refine ⟨_, PSs.nox ((pss_one (ps_ret (pe_make T.mk_Rule (ok_Rule___init__ T) (hr.mono (by decide)) (by rfl) T.gc_Rule (kd_Rule___init__ T).choose_spec.2 (kd_Rule___init__ T).choose_spec.1 pass0 (pa_cons (pe_callTy (r := rListQ K) cr_listQ (by rfl) T.n_list (by decide +kernel) (pa_cons (pv 0) pa_nil)) (pa_cons (pe_lst pa_nil) pa_nil)))))), ?_⟩
  have S : Sx P0 F0 H0 F0 H0 := Sx.refl0 hE
  unfold m_Rule_by_first at hm
  refine rd_ret ?_
  refine rd_makeD ?_
  refine rd_cons <| rd_cb <| rd_cons <| rd_v rfl <| rd_nil ?_
  refine rd_listQ (S.t f_patterns).q ?_
  refine alL' S (fun v1 F2 H3 c4 f5 => ?_)
  have S6 := S.call0 c4
  have f_patterns := f_patterns.up c4
  refine rd_cons <| rd_lst <| rd_nil <| rd_lK rfl ?_
  refine alL (K := K) (A := qPat) (xs := ([] : List Pat)) S6 .nil (fun v7 F8 H9 c10 f11 => ?_)
  have S12 := S6.call0 c10
  obtain ⟨f_patterns, f5⟩ := up2 f_patterns f5 c10
  obtain ⟨t13, e14, hm⟩ := bd_some hm
  refine rd_nil ?_
  refine mkd_at (rest := [v1, v7, (V.non), (V.bl true), (V.non), (V.bl false)]) rfl ?_
  refine new_Rule S12 f5 f11 (show qTh.r K F8 (V.non) (Th.d .none) from Dp.non) (show qTh.r K F8 (V.bl true) (Th.d (.bool true)) from Dp.bl _) (show qTh.r K F8 (V.non) (Th.d .none) from Dp.non) (show qTh.r K F8 (V.bl false) (Th.d (.bool false)) from Dp.bl _) e14 (fun v15 F16 H17 c18 f19 => ?_)
  have S20 := S12.call0 c18
  have f_patterns := f_patterns.up c18
  cases hm
  exact hQ _ _ _ S20 f19
def sp_Rule_by_first_vx (K : PySem.W.Frag) : Sp := fun vs H Q E => ∃ (F : Hp) (v_patterns : V) (a_patterns : (List Pat)) (rr : (Except Str τ3ₓ)), vs = [v_patterns] ∧ Same F H ∧ (qT qPat).r K F v_patterns a_patterns ∧ m_Rule_by_first_vx a_patterns = some rr ∧ (∀ r, rr = .ok r → ∀ v F' H', Sx P0 F H F' H' → qRule.r K F' v r → Q v H') ∧ (∀ e cls d F' H', rr = .error e → Sx P0 F H F' H' → ErrAt K H' "NoRule" ["field"] [.str e] cls d → E cls d H')
theorem sc_Rule_by_first_vx : FnScope ["patterns"] ["patterns"] (defScope s_Rule_by_first) := ⟨rfl, rfl, rfl, by decide +kernel, rfl, by decide +kernel, by decide +kernel⟩
theorem ok_Rule_by_first_vx (T : Tx P K mg) : FnR P w K mg base (L2.CX P w) 5 (sgA K "Rule" "by_first") (starSp 0 (sp_Rule_by_first_vx K)) := by
 obtain ⟨oc, od, dV, kV, doc, pm, an, cdv, ct, osl, efd, lk, hcd, hD, _⟩ := T.sm_Rule_by_first.F.ex
 rw [efd] at lk
 obtain ⟨_, rfl⟩ | ⟨nD, _⟩ := hD
 rotate_left
 ·
  exact absurd rfl nD
 refine StX.fn_star (ps := []) (pv := "patterns") lk hcd sc_Rule_by_first_vx StX.cxUp (fun us rest hl => bind_star0 (pv := "patterns") (B := fun us => bindArgs (PySem.W.fnOf _ _ _ _ _ .none kV doc pm an cdv ct) ⟨us, []⟩) (by rfl) (fun r rs => by rfl) us rest hl) (fun A outer s H0 vs Q E hr h => ?_)
 ·
  obtain ⟨F0, v_patterns, a_patterns, rr, rfl, hE, f_patterns, hm, hQ, hX⟩ := h
  refine ⟨_, (pss_one (ps_ret (pe_make T.mk_Rule (ok_Rule___init___vx T) (hr.mono (by decide)) (by rfl) T.gc_Rule (kd_Rule___init___vx T).choose_spec.2 (kd_Rule___init___vx T).choose_spec.1 passes_cx (pa_cons (pe_callTy (r := rListQ K) cr_listQ (by rfl) T.n_list (by decide +kernel) (pa_cons (pv 0) pa_nil)) (pa_cons (pe_lst pa_nil) pa_nil))))), ?_⟩
  have S : Sx P0 F0 H0 F0 H0 := Sx.refl0 hE
  unfold m_Rule_by_first_vx at hm
  refine rd_ret ?_
  refine rd_makeD ?_
  refine rd_cons <| rd_cb <| rd_cons <| rd_v rfl <| rd_nil ?_
  refine rd_listQ (S.t f_patterns).q ?_
  refine alL' S (fun v1 F2 H3 c4 f5 => ?_)
  have S6 := S.call0 c4
  have f_patterns := f_patterns.up c4
  refine rd_cons <| rd_lst <| rd_nil <| rd_lK rfl ?_
  refine alL (K := K) (A := qPat) (xs := ([] : List Pat)) S6 .nil (fun v7 F8 H9 c10 f11 => ?_)
  have S12 := S6.call0 c10
  obtain ⟨f_patterns, f5⟩ := up2 f_patterns f5 c10
  obtain ⟨t13, e14, hm⟩ := bd_some hm
  refine rd_nil ?_
  refine mkd_at (rest := [v1, v7, (V.non), (V.bl true), (V.non), (V.bl false)]) rfl ?_
  refine newx_RuleS S12 f5 f11 (show qTh.r K F8 (V.non) (Th.d .none) from Dp.non) (show qTh.r K F8 (V.bl true) (Th.d (.bool true)) from Dp.bl _) (show qTh.r K F8 (V.non) (Th.d .none) from Dp.non) (show qTh.r K F8 (V.bl false) (Th.d (.bool false)) from Dp.bl _) e14 ?_ ?_
  rotate_left
  ·
   intro x22 cls23 d24 F25 H26 ee27 c28 ea29
   exact hX _ _ _ _ _ (exB_err ee27 hm) (S12.call0 c28) ea29
  intro t15 er16 v17 F18 H19 c20 f21
  subst er16
  have hm := exB_ok hm
  have S30 := S12.call0 c20
  have f_patterns := f_patterns.up c20
  cases hm
  exact hQ _ rfl _ _ _ S30 f21
def sp_Rule_by_last (K : PySem.W.Frag) : Sp := fun vs H Q _ => ∃ (F : Hp) (v_patterns : V) (a_patterns : (List Pat)) (r : τ3ₓ), vs = [v_patterns] ∧ Same F H ∧ (qT qPat).r K F v_patterns a_patterns ∧ m_Rule_by_last a_patterns = some r ∧ ∀ v F' H', Sx P0 F H F' H' → qRule.r K F' v r → Q v H'
theorem sc_Rule_by_last : FnScope ["patterns"] ["patterns"] (defScope s_Rule_by_last) := ⟨rfl, rfl, rfl, by decide +kernel, rfl, by decide +kernel, by decide +kernel⟩
theorem ok_Rule_by_last (T : Tx P K mg) : FnR P w K mg base CX0 5 (sgA K "Rule" "by_last") (starSp 0 (sp_Rule_by_last K)) := by
 obtain ⟨oc, od, dV, kV, doc, pm, an, cdv, ct, osl, efd, lk, hcd, hD, _⟩ := T.sm_Rule_by_last.F.ex
 rw [efd] at lk
 obtain ⟨_, rfl⟩ | ⟨nD, _⟩ := hD
 rotate_left
 ·
  exact absurd rfl nD
 refine StX.fn_star (ps := []) (pv := "patterns") lk hcd sc_Rule_by_last StX.cxUp_none (fun us rest hl => bind_star0 (pv := "patterns") (B := fun us => bindArgs (PySem.W.fnOf _ _ _ _ _ .none kV doc pm an cdv ct) ⟨us, []⟩) (by rfl) (fun r rs => by rfl) us rest hl) (fun A outer s H0 vs Q E hr h => ?_)
 ·
  obtain ⟨F0, v_patterns, a_patterns, r, rfl, hE, f_patterns, hm, hQ⟩ := h
  refine ⟨_, PSs.nox ((pss_one (ps_ret (pe_make T.mk_Rule (ok_Rule___init__ T) (hr.mono (by decide)) (by rfl) T.gc_Rule (kd_Rule___init__ T).choose_spec.2 (kd_Rule___init__ T).choose_spec.1 pass0 (pa_cons (pe_lst pa_nil) (pa_cons (pe_callTy (r := rListQ K) cr_listQ (by rfl) T.n_list (by decide +kernel) (pa_cons (pv 0) pa_nil)) pa_nil)))))), ?_⟩
  have S : Sx P0 F0 H0 F0 H0 := Sx.refl0 hE
  unfold m_Rule_by_last at hm
  refine rd_ret ?_
  refine rd_makeD ?_
  refine rd_cons <| rd_lst <| rd_nil <| rd_lK rfl ?_
  refine alL (K := K) (A := qPat) (xs := ([] : List Pat)) S .nil (fun v1 F2 H3 c4 f5 => ?_)
  have S6 := S.call0 c4
  have f_patterns := f_patterns.up c4
  refine rd_cons <| rd_cb <| rd_cons <| rd_v rfl <| rd_nil ?_
  refine rd_listQ (S6.t f_patterns).q ?_
  refine alL' S6 (fun v7 F8 H9 c10 f11 => ?_)
  have S12 := S6.call0 c10
  obtain ⟨f_patterns, f5⟩ := up2 f_patterns f5 c10
  obtain ⟨t13, e14, hm⟩ := bd_some hm
  refine rd_nil ?_
  refine mkd_at (rest := [v1, v7, (V.non), (V.bl true), (V.non), (V.bl false)]) rfl ?_
  refine new_Rule S12 f5 f11 (show qTh.r K F8 (V.non) (Th.d .none) from Dp.non) (show qTh.r K F8 (V.bl true) (Th.d (.bool true)) from Dp.bl _) (show qTh.r K F8 (V.non) (Th.d .none) from Dp.non) (show qTh.r K F8 (V.bl false) (Th.d (.bool false)) from Dp.bl _) e14 (fun v15 F16 H17 c18 f19 => ?_)
  have S20 := S12.call0 c18
  have f_patterns := f_patterns.up c18
  cases hm
  exact hQ _ _ _ S20 f19
def sp_Rule_by_last_vx (K : PySem.W.Frag) : Sp := fun vs H Q E => ∃ (F : Hp) (v_patterns : V) (a_patterns : (List Pat)) (rr : (Except Str τ3ₓ)), vs = [v_patterns] ∧ Same F H ∧ (qT qPat).r K F v_patterns a_patterns ∧ m_Rule_by_last_vx a_patterns = some rr ∧ (∀ r, rr = .ok r → ∀ v F' H', Sx P0 F H F' H' → qRule.r K F' v r → Q v H') ∧ (∀ e cls d F' H', rr = .error e → Sx P0 F H F' H' → ErrAt K H' "NoRule" ["field"] [.str e] cls d → E cls d H')
theorem sc_Rule_by_last_vx : FnScope ["patterns"] ["patterns"] (defScope s_Rule_by_last) := ⟨rfl, rfl, rfl, by decide +kernel, rfl, by decide +kernel, by decide +kernel⟩
theorem ok_Rule_by_last_vx (T : Tx P K mg) : FnR P w K mg base (L2.CX P w) 5 (sgA K "Rule" "by_last") (starSp 0 (sp_Rule_by_last_vx K)) := by
 obtain ⟨oc, od, dV, kV, doc, pm, an, cdv, ct, osl, efd, lk, hcd, hD, _⟩ := T.sm_Rule_by_last.F.ex
 rw [efd] at lk
 obtain ⟨_, rfl⟩ | ⟨nD, _⟩ := hD
 rotate_left
 ·
  exact absurd rfl nD
 refine StX.fn_star (ps := []) (pv := "patterns") lk hcd sc_Rule_by_last_vx StX.cxUp (fun us rest hl => bind_star0 (pv := "patterns") (B := fun us => bindArgs (PySem.W.fnOf _ _ _ _ _ .none kV doc pm an cdv ct) ⟨us, []⟩) (by rfl) (fun r rs => by rfl) us rest hl) (fun A outer s H0 vs Q E hr h => ?_)
 ·
  obtain ⟨F0, v_patterns, a_patterns, rr, rfl, hE, f_patterns, hm, hQ, hX⟩ := h
  refine ⟨_, (pss_one (ps_ret (pe_make T.mk_Rule (ok_Rule___init___vx T) (hr.mono (by decide)) (by rfl) T.gc_Rule (kd_Rule___init___vx T).choose_spec.2 (kd_Rule___init___vx T).choose_spec.1 passes_cx (pa_cons (pe_lst pa_nil) (pa_cons (pe_callTy (r := rListQ K) cr_listQ (by rfl) T.n_list (by decide +kernel) (pa_cons (pv 0) pa_nil)) pa_nil))))), ?_⟩
  have S : Sx P0 F0 H0 F0 H0 := Sx.refl0 hE
  unfold m_Rule_by_last_vx at hm
  refine rd_ret ?_
  refine rd_makeD ?_
  refine rd_cons <| rd_lst <| rd_nil <| rd_lK rfl ?_
  refine alL (K := K) (A := qPat) (xs := ([] : List Pat)) S .nil (fun v1 F2 H3 c4 f5 => ?_)
  have S6 := S.call0 c4
  have f_patterns := f_patterns.up c4
  refine rd_cons <| rd_cb <| rd_cons <| rd_v rfl <| rd_nil ?_
  refine rd_listQ (S6.t f_patterns).q ?_
  refine alL' S6 (fun v7 F8 H9 c10 f11 => ?_)
  have S12 := S6.call0 c10
  obtain ⟨f_patterns, f5⟩ := up2 f_patterns f5 c10
  obtain ⟨t13, e14, hm⟩ := bd_some hm
  refine rd_nil ?_
  refine mkd_at (rest := [v1, v7, (V.non), (V.bl true), (V.non), (V.bl false)]) rfl ?_
  refine newx_RuleS S12 f5 f11 (show qTh.r K F8 (V.non) (Th.d .none) from Dp.non) (show qTh.r K F8 (V.bl true) (Th.d (.bool true)) from Dp.bl _) (show qTh.r K F8 (V.non) (Th.d .none) from Dp.non) (show qTh.r K F8 (V.bl false) (Th.d (.bool false)) from Dp.bl _) e14 ?_ ?_
  rotate_left
  ·
   intro x22 cls23 d24 F25 H26 ee27 c28 ea29
   exact hX _ _ _ _ _ (exB_err ee27 hm) (S12.call0 c28) ea29
  intro t15 er16 v17 F18 H19 c20 f21
  subst er16
  have hm := exB_ok hm
  have S30 := S12.call0 c20
  have f_patterns := f_patterns.up c20
  cases hm
  exact hQ _ rfl _ _ _ S30 f21
def sp_Rule_every_line (K : PySem.W.Frag) : Sp := fun vs H Q _ => ∃ (F : Hp)  (r : τ3ₓ), vs = [] ∧ Same F H ∧ m_Rule_every_line = some r ∧ ∀ v F' H', Sx P0 F H F' H' → qRule.r K F' v r → Q v H'
theorem sc_Rule_every_line : FnScope [] [] (defScope s_Rule_every_line) := ⟨rfl, rfl, rfl, by decide +kernel, rfl, by decide +kernel, by decide +kernel⟩
theorem bn_Rule_every_line (T : Tx P K mg) : Binds K (fdT K "Rule" "every_line") [] [] := FunD.bindsN T.sm_Rule_every_line.F fun _ _ _ _ _ _ us hl => match us, hl with | [], _ => rfl
theorem ok_Rule_every_line (T : Tx P K mg) : FnOk P w K mg base CX0 5 (sgA K "Rule" "every_line") (fdT K "Rule" "every_line") [] (sp_Rule_every_line K) := by
 refine FunD.ok T.sm_Rule_every_line.F sc_Rule_every_line (fun vs H0 Q E h => ?_) (fun cdv A outer s H0 vs Q E hr h => ?_)
 ·
  obtain ⟨_, _, rfl, _⟩ := h
  rfl
 ·
  obtain ⟨F0, r, rfl, hE, hm, hQ⟩ := h
  refine ⟨_, PSs.nox ((pss_one (ps_ret (pe_make T.mk_Rule (ok_Rule___init__ T) (hr.mono (by decide)) (by rfl) T.gc_Rule (kd_Rule___init__ T).choose_spec.2 (kd_Rule___init__ T).choose_spec.1 pass0 (pa_cons (pe_lst (pa_cons (StX.pe_makeR T.mk_Form (ok_Form___init__ T) (hr.mono (by decide)) (by rfl) T.gc_Form pass0 (pa_cons (pe_cvalK (pe_glob (v := V.ref (He.ga K "Form")) (by rfl) T.gc_Form rfl)) pa_nil)) pa_nil)) (pa_cons (pe_lst pa_nil) pa_nil)))))), ?_⟩
  have S : Sx P0 F0 H0 F0 H0 := Sx.refl0 hE
  unfold m_Rule_every_line at hm
  obtain ⟨t1, e2, hm⟩ := bd_some hm
  refine rd_ret ?_
  refine rd_makeD ?_
  refine rd_cons <| rd_lst <| rd_cons ?_
  refine rd_makeR ?_
  refine rd_cons ?_
  refine rd_cvalC T.cv_Form_ANY ?_
  refine rd_nil ?_
  refine new_Form S (.cons rfl .nil) rfl e2 (fun v3 F4 H5 c6 f7 => ?_)
  have S8 := S.call0 c6
  have f9 : qPat.r K F4 v3 (Pat.form t1) := (show qPat.r K F4 v3 _ from f7)
  refine rd_nil <| rd_lK rfl ?_
  refine alL (K := K) (A := qPat) (xs := [(Pat.form t1)]) S8 (.cons f9 .nil) (fun v10 F11 H12 c13 f14 => ?_)
  have S15 := S8.call0 c13
  refine rd_cons <| rd_lst <| rd_nil <| rd_lK rfl ?_
  refine alL (K := K) (A := qPat) (xs := ([] : List Pat)) S15 .nil (fun v16 F17 H18 c19 f20 => ?_)
  have S21 := S15.call0 c19
  have f14 := f14.up c19
  obtain ⟨t22, e23, hm⟩ := bd_some hm
  refine rd_nil ?_
  refine mkd_at (rest := [v10, v16, (V.non), (V.bl true), (V.non), (V.bl false)]) rfl ?_
  refine new_Rule S21 f14 f20 (show qTh.r K F17 (V.non) (Th.d .none) from Dp.non) (show qTh.r K F17 (V.bl true) (Th.d (.bool true)) from Dp.bl _) (show qTh.r K F17 (V.non) (Th.d .none) from Dp.non) (show qTh.r K F17 (V.bl false) (Th.d (.bool false)) from Dp.bl _) e23 (fun v24 F25 H26 c27 f28 => ?_)
  have S29 := S21.call0 c27
  cases hm
  exact hQ _ _ _ S29 f28
def sp_Rule_quiet (K : PySem.W.Frag) : Sp := fun vs H Q _ => ∃ (F : Hp) (v_self : V) (a_self : τ3ₓ) (r : Bool), vs = [v_self] ∧ Same F H ∧ qRule.r K F v_self a_self ∧ m_Rule_quiet a_self = some r ∧ ∀ v F' H', Sx P0 F H F' H' → qB.r K F' v r → Q v H'
theorem sc_Rule_quiet : FnScope ["self"] ["self"] (defScope s_Rule_quiet) := ⟨rfl, rfl, rfl, by decide +kernel, rfl, by decide +kernel, by decide +kernel⟩
theorem bn_Rule_quiet (T : Tx P K mg) : Binds K (fdG K "Rule" "quiet") ["self"] [] := FunD.bindsN T.pr_Rule_quiet.F fun _ _ _ _ _ _ us hl => match us, hl with | [_], _ => rfl
theorem ok_Rule_quiet (T : Tx P K mg) : FnOk P w K mg base CX0 1 (geA K "Rule" "quiet") (fdG K "Rule" "quiet") ["self"] (sp_Rule_quiet K) := by
 refine FunD.ok T.pr_Rule_quiet.F sc_Rule_quiet (fun vs H0 Q E h => ?_) (fun cdv A outer s H0 vs Q E hr h => ?_)
 ·
  obtain ⟨_, _, _, _, rfl, _⟩ := h
  rfl
 ·
  obtain ⟨F0, v_self, a_self, r, rfl, hE, f_self, hm, hQ⟩ := h
  refine ⟨_, PSs.nox ((pss_one (ps_ret (pe_dgetO hr.units (pe_fldK (pv 0) rfl) pe_str (fun _ _ => rfl))))), ?_⟩
  have S : Sx P0 F0 H0 F0 H0 := Sx.refl0 hE
  unfold m_Rule_quiet at hm
  refine rd_ret <| rd_op <| rd_fld <| rd_v rfl ?_
  refine fld_Rule_settings T S f_self (fun u1 f2 => ?_)
  obtain ⟨t3, e4, hm⟩ := bd_some hm
  refine rd_c ?_
  refine rd_dgSd S f2 e4 (fun u5 f6 => ?_)
  obtain ⟨t7, e8, hm⟩ := bd_some hm
  have e9 := thB_fact f6 e8
  cases e9
  cases hm
  exact hQ _ _ _ S rfl
def sp_law_too_many (K : PySem.W.Frag) : Sp := fun vs H Q _ => ∃ (F : Hp) (v_one : V) (a_one : Pat) (a_first : Bool) (r : Bool), vs = [v_one, (V.bl (a_first))] ∧ Same F H ∧ qPat.r K F v_one a_one ∧ m_law_too_many a_one a_first = some r ∧ ∀ v F' H', Sx P0 F H F' H' → qB.r K F' v r → Q v H'
theorem sc_law_too_many : FnScope ["_law_one", "_law_first", "e"] ["_law_one", "_law_first"] (defScope s_law_too_many) := ⟨rfl, rfl, rfl, by decide +kernel, rfl, by decide +kernel, by decide +kernel⟩
theorem bn_law_too_many (T : Tx P K mg) : Binds K (fdOf K ("_law_too_many", none)) ["_law_one", "_law_first"] [] := FunD.bindsN T.F_law_too_many fun _ _ _ _ _ _ us hl => match us, hl with | [_, _], _ => rfl
theorem ok_law_too_many (T : Tx P K mg) : FnOk P w K mg base CX0 7 (He.ga K "_law_too_many") (fdOf K ("_law_too_many", none)) ["_law_one", "_law_first"] (sp_law_too_many K) := by
 refine FunD.ok T.F_law_too_many sc_law_too_many (fun vs H0 Q E h => ?_) (fun cdv A outer s H0 vs Q E hr h => ?_)
 ·
  obtain ⟨_, _, _, _, _, rfl, _⟩ := h
  rfl
 ·
  obtain ⟨F0, v_one, a_one, a_first, r, rfl, hE, f_one, hm, hQ⟩ := h
  refine ⟨_, PSs.nox ((pss_cons (ps_tryK (i := 2) rfl rfl sc_law_too_many.nd rfl rfl ⟨by rfl, by decide, .inl T.gx_NoRule⟩ takesF (fun W pn xe tk own => (pss_one (ps_if (pt_val (pv 1)) (pss_one (ps_expr (pe_smKS (pe_glob (v := V.ref (He.ga K "Rule")) (by rfl) T.gc_Rule rfl) T.sm_Rule_by_first (ok_Rule_by_first_vx T) (hr.mono (by decide)) (fun σ => passAt tk σ) (pa_cons (pv 0) (pa_cons (pv 0) (pa_cons (pv 0) (pa_cons (pv 0) (pa_cons (pv 0) (pa_cons (pv 0) (pa_cons (pv 0) pa_nil)))))))))) (pss_one (ps_expr (pe_smKS (pe_glob (v := V.ref (He.ga K "Rule")) (by rfl) T.gc_Rule rfl) T.sm_Rule_by_last (ok_Rule_by_last_vx T) (hr.mono (by decide)) (fun σ => passAt tk σ) (pa_cons (pv 0) (pa_cons (pv 0) (pa_cons (pv 0) (pa_cons (pv 0) (pa_cons (pv 0) (pa_cons (pv 0) (pa_cons (pv 0) pa_nil))))))))))))) (fun a oe cls d pn hz hf => (pss_one (ps_ret (pe_cmpR op_eqS (pe_xf T.er_NoRule.xf (T.er_NoRule.no _ (by decide)) hz hf (pv 2)) pe_str (nomark _)))))) (pss_one (ps_ret pe_bl)))), ?_⟩
  have S : Sx P0 F0 H0 F0 H0 := Sx.refl0 hE
  unfold m_law_too_many at hm
  refine rd_seq ?_
  refine rd_try ?_
  refine rd_ifS <| rd_tB <| rd_v rfl <| rd_b ?_
  refine if_b hm (fun b1 hm => ?_) (fun b1 hm => ?_)
  ·
   refine rd_drop ?_
   refine rd_smS ?_
   refine rd_c ?_
   refine sm_at ?_
   refine rd_cons <| rd_v rfl <| rd_cons <| rd_v rfl <| rd_cons <| rd_v rfl <| rd_cons <| rd_v rfl <| rd_cons <| rd_v rfl <| rd_cons <| rd_v rfl <| rd_cons <| rd_v rfl <| rd_nil ?_
   refine st_star (xs := [a_one, a_one, a_one, a_one, a_one, a_one, a_one]) S (.cons f_one (.cons f_one (.cons f_one (.cons f_one (.cons f_one (.cons f_one (.cons f_one .nil))))))) rfl (fun v2 F3 H4 c5 f6 => ?_)
   have S7 := S.call0 c5
   have f_one := f_one.up c5
   obtain ⟨t8, e9, hm⟩ := bd_some hm
   refine ⟨F3, _, _, t8, rfl, S7.sub, f6, e9, ?_, ?_⟩
   rotate_left
   ·
    intro x17 cls18 d19 F20 H21 ee22 c23 ea24
    subst ee22
    have hm := exT_err hm
    obtain ⟨dd25, rfl, rfl, hx26⟩ := ea24
    refine rd_was T.xm_NoRule_NoRule (fun a27 na28 => ?_)
    have S29 := S7.call0 c23
    have f_one := f_one.up c23
    cases hm
    refine rd_ret <| rd_op ?_
    refine rd_xf ?_
    refine rd_v rfl ?_
    refine xf_at hx26 (by rfl) ?_
    refine rd_c <| rd_S0 ?_
    exact hQ _ _ _ S29 rfl
   intro t10 er16 v14 F11 H12 c13 f15
   subst er16
   have hm := exT_ok hm
   have S30 := S7.call0 c13
   have f_one := f_one.up c13
   cases hm
   refine rd_ret <| rd_c ?_
   exact hQ _ _ _ S30 rfl
  ·
   refine rd_drop ?_
   refine rd_smS ?_
   refine rd_c ?_
   refine sm_at ?_
   refine rd_cons <| rd_v rfl <| rd_cons <| rd_v rfl <| rd_cons <| rd_v rfl <| rd_cons <| rd_v rfl <| rd_cons <| rd_v rfl <| rd_cons <| rd_v rfl <| rd_cons <| rd_v rfl <| rd_nil ?_
   refine st_star (xs := [a_one, a_one, a_one, a_one, a_one, a_one, a_one]) S (.cons f_one (.cons f_one (.cons f_one (.cons f_one (.cons f_one (.cons f_one (.cons f_one .nil))))))) rfl (fun v31 F32 H33 c34 f35 => ?_)
   have S36 := S.call0 c34
   have f_one := f_one.up c34
   obtain ⟨t37, e38, hm⟩ := bd_some hm
   refine ⟨F32, _, _, t37, rfl, S36.sub, f35, e38, ?_, ?_⟩
   rotate_left
   ·
    intro x46 cls47 d48 F49 H50 ee51 c52 ea53
    subst ee51
    have hm := exT_err hm
    obtain ⟨dd54, rfl, rfl, hx55⟩ := ea53
    refine rd_was T.xm_NoRule_NoRule (fun a56 na57 => ?_)
    have S58 := S36.call0 c52
    have f_one := f_one.up c52
    cases hm
    refine rd_ret <| rd_op ?_
    refine rd_xf ?_
    refine rd_v rfl ?_
    refine xf_at hx55 (by rfl) ?_
    refine rd_c <| rd_S0 ?_
    exact hQ _ _ _ S58 rfl
   intro t39 er45 v43 F40 H41 c42 f44
   subst er45
   have hm := exT_ok hm
   have S59 := S36.call0 c42
   have f_one := f_one.up c42
   cases hm
   refine rd_ret <| rd_c ?_
   exact hQ _ _ _ S59 rfl
def sp_Rule_begins (K : PySem.W.Frag) : Sp := fun vs H Q _ => ∃ (F : Hp) (v_self : V) (a_self : τ3ₓ) (r : (List Pat)), vs = [v_self] ∧ Same F H ∧ qRule.r K F v_self a_self ∧ m_Rule_begins a_self = some r ∧ ∀ v F' H', Sx P0 F H F' H' → (qL qPat).r K F' v r → Q v H'
theorem sc_Rule_begins : FnScope ["self"] ["self"] (defScope s_Rule_begins) := ⟨rfl, rfl, rfl, by decide +kernel, rfl, by decide +kernel, by decide +kernel⟩
theorem bn_Rule_begins (T : Tx P K mg) : Binds K (fdOf K ("Rule", some "begins")) ["self"] [] := FunD.bindsN T.F_Rule_begins fun _ _ _ _ _ _ us hl => match us, hl with | [_], _ => rfl
theorem ok_Rule_begins (T : Tx P K mg) : FnOk P w K mg base CX0 1 (He.fAd K ("Rule", some "begins")) (fdOf K ("Rule", some "begins")) ["self"] (sp_Rule_begins K) := by
 refine FunD.ok T.F_Rule_begins sc_Rule_begins (fun vs H0 Q E h => ?_) (fun cdv A outer s H0 vs Q E hr h => ?_)
 ·
  obtain ⟨_, _, _, _, rfl, _⟩ := h
  rfl
 ·
  obtain ⟨F0, v_self, a_self, r, rfl, hE, f_self, hm, hQ⟩ := h
  refine ⟨_, PSs.nox ((pss_one (ps_ret (pe_callTy (r := rListQ K) cr_listQ (by rfl) T.n_list (by decide +kernel) (pa_cons (pe_fldK (pv 0) rfl) pa_nil))))), ?_⟩
  have S : Sx P0 F0 H0 F0 H0 := Sx.refl0 hE
  unfold m_Rule_begins at hm
  refine rd_ret <| rd_cb <| rd_cons <| rd_fld <| rd_v rfl ?_
  refine fld_Rule_openers T S f_self (fun u1 f2 => ?_)
  refine rd_nil ?_
  refine rd_listQ (S.l f2).r.q ?_
  refine alL' S (fun v3 F4 H5 c6 f7 => ?_)
  have S8 := S.call0 c6
  have f_self := f_self.up c6
  cases hm
  exact hQ _ _ _ S8 f7
def sp_law_texts (K : PySem.W.Frag) : Sp := fun vs H Q _ => ∃ (F : Hp) (v_marks_here : V) (a_marks_here : (List Pat)) (r : (List Str)), vs = [v_marks_here] ∧ Same F H ∧ (qL qPat).r K F v_marks_here a_marks_here ∧ m_law_texts a_marks_here = some r ∧ ∀ v F' H', Sx P0 F H F' H' → (qL qS).r K F' v r → Q v H'
theorem sc_law_texts : FnScope ["_law_marks_here", "_law_mark"] ["_law_marks_here"] (defScope s_law_texts) := ⟨rfl, rfl, rfl, by decide +kernel, rfl, by decide +kernel, by decide +kernel⟩
theorem bn_law_texts (T : Tx P K mg) : Binds K (fdOf K ("_law_texts", none)) ["_law_marks_here"] [] := FunD.bindsN T.F_law_texts fun _ _ _ _ _ _ us hl => match us, hl with | [_], _ => rfl
theorem ok_law_texts (T : Tx P K mg) : FnOk P w K mg base CX0 13 (He.ga K "_law_texts") (fdOf K ("_law_texts", none)) ["_law_marks_here"] (sp_law_texts K) := by
 refine FunD.ok T.F_law_texts sc_law_texts (fun vs H0 Q E h => ?_) (fun cdv A outer s H0 vs Q E hr h => ?_)
 ·
  obtain ⟨_, _, _, _, rfl, _⟩ := h
  rfl
 ·
  obtain ⟨F0, v_marks_here, a_marks_here, r, rfl, hE, f_marks_here, hm, hQ⟩ := h
  refine ⟨_, PSs.nox ((pss_one (ps_ret (pe_lc (own := [("_law_mark", 1)]) (tt := tYes) rfl sc_law_texts.nd (pi_listK (pv 0)) (blkOk_by (N := ["_law_marks_here", "_law_mark"]) (sc := defScope s_law_texts) (by decide +kernel)) (fun _ _ _ _ _ => pg_name (i := 1) sc_law_texts.nd rfl (Or.inl rfl)) (fun _ _ _ _ _ => pts_nil) (fun _ _ _ _ _ => (pe_callTy (r := rStrW P w K mg base 10) (cr_strW (hr.mono (by decide))) (by rfl) T.n_str (by decide +kernel) (pa_cons (pv 1) pa_nil))))))), ?_⟩
  have S : Sx P0 F0 H0 F0 H0 := Sx.refl0 hE
  unfold m_law_texts at hm
  refine rd_ret <| rd_lc <| rd_iL <| rd_v rfl ?_
  refine rd_wLF S (f_marks_here) (fun p1 vs2 hq3 row4 => ?_)
  obtain ⟨g5, hm⟩ := gd_some hm
  obtain ⟨t6, e7, hm⟩ := bd_some hm
  refine rd_comp (B := qS) feedsL (typedRow row4) e7 g5 (Pc := P0) (fun _ z => z.elim) S.sub (fun (s8 : Unit) F H => True) ?_ ?_ ?_ ?_ ?_ ?_
  ·
   intro _ _ _ S9 _
   exact (Same.seq S9.sub (Same.seq S9.le hq3))
  ·
   trivial
  ·
   intros; trivial
  ·
   intros; trivial
  ·
   intro x10 v11 s12 o13 F14 H15 d16 acc17 f18 S19 w20 w21 n22 hm23 E24 N25 hN26 hE27
   have f_marks_here := f_marks_here.up S19
   have S28 := Sx.refl0 S19.sub
   unfold m_law_texts_b1 at hm23
   have f18 := f18.up S19
   refine rd_gn <| rd_wp rfl <| rd_yes <| if_tt <| rd_cb <| rd_cons <| rd_v rfl <| rd_nil ?_
   refine VM.strW (vm_str T 3) S28 f18 ?_
   obtain ⟨t29, e30, hm23⟩ := bd_some hm23
   refine ⟨F14, _, _, t29, rfl, S28.sub, f18, rfl, e30, fun v34 F31 H32 c33 f35 => ?_⟩
   have S36 := S28.call0 c33
   obtain ⟨f_marks_here, f18⟩ := up2 f_marks_here f18 c33
   cases (show v34 = (V.str (t29)) from f35)
   cases hm23
   refine rd_stK ?_
   exact hN26 _ _ _ _ rfl S36 rfl trivial
  intro p37 us38 F39 H40 n41 c42 w43 w44 r45
  have z46 := S.free0 n41
  have S47 := S.call0 c42
  have f_marks_here := f_marks_here.up c42
  have w48 : Ow P0 H0 _ _ _ _ := ⟨w44.fr, w44.at_, .inl z46⟩
  obtain ⟨F49, S50, le51, f52, _, eq53⟩ := fz S47 w48 z46 r45
  have f_marks_here := (qL qPat).mono le51 f_marks_here
  cases hm
  exact hQ _ _ _ S50 f52
def sp_Rule_ends (K : PySem.W.Frag) : Sp := fun vs H Q _ => ∃ (F : Hp) (v_self : V) (a_self : τ3ₓ) (r : (List Pat)), vs = [v_self] ∧ Same F H ∧ qRule.r K F v_self a_self ∧ m_Rule_ends a_self = some r ∧ ∀ v F' H', Sx P0 F H F' H' → (qL qPat).r K F' v r → Q v H'
theorem sc_Rule_ends : FnScope ["self"] ["self"] (defScope s_Rule_ends) := ⟨rfl, rfl, rfl, by decide +kernel, rfl, by decide +kernel, by decide +kernel⟩
theorem bn_Rule_ends (T : Tx P K mg) : Binds K (fdOf K ("Rule", some "ends")) ["self"] [] := FunD.bindsN T.F_Rule_ends fun _ _ _ _ _ _ us hl => match us, hl with | [_], _ => rfl
theorem ok_Rule_ends (T : Tx P K mg) : FnOk P w K mg base CX0 1 (He.fAd K ("Rule", some "ends")) (fdOf K ("Rule", some "ends")) ["self"] (sp_Rule_ends K) := by
 refine FunD.ok T.F_Rule_ends sc_Rule_ends (fun vs H0 Q E h => ?_) (fun cdv A outer s H0 vs Q E hr h => ?_)
 ·
  obtain ⟨_, _, _, _, rfl, _⟩ := h
  rfl
 ·
  obtain ⟨F0, v_self, a_self, r, rfl, hE, f_self, hm, hQ⟩ := h
  refine ⟨_, PSs.nox ((pss_one (ps_ret (pe_callTy (r := rListQ K) cr_listQ (by rfl) T.n_list (by decide +kernel) (pa_cons (pe_fldK (pv 0) rfl) pa_nil))))), ?_⟩
  have S : Sx P0 F0 H0 F0 H0 := Sx.refl0 hE
  unfold m_Rule_ends at hm
  refine rd_ret <| rd_cb <| rd_cons <| rd_fld <| rd_v rfl ?_
  refine fld_Rule_closers T S f_self (fun u1 f2 => ?_)
  refine rd_nil ?_
  refine rd_listQ (S.l f2).r.q ?_
  refine alL' S (fun v3 F4 H5 c6 f7 => ?_)
  have S8 := S.call0 c6
  have f_self := f_self.up c6
  cases hm
  exact hQ _ _ _ S8 f7
def sp_Rule_most (K : PySem.W.Frag) : Sp := fun vs H Q _ => ∃ (F : Hp) (v_self : V) (a_self : τ3ₓ) (r : (Option Int)), vs = [v_self] ∧ Same F H ∧ qRule.r K F v_self a_self ∧ m_Rule_most a_self = some r ∧ ∀ v F' H', Sx P0 F H F' H' → (qO qI).r K F' v r → Q v H'
theorem sc_Rule_most : FnScope ["self"] ["self"] (defScope s_Rule_most) := ⟨rfl, rfl, rfl, by decide +kernel, rfl, by decide +kernel, by decide +kernel⟩
theorem bn_Rule_most (T : Tx P K mg) : Binds K (fdG K "Rule" "most") ["self"] [] := FunD.bindsN T.pr_Rule_most.F fun _ _ _ _ _ _ us hl => match us, hl with | [_], _ => rfl
theorem ok_Rule_most (T : Tx P K mg) : FnOk P w K mg base CX0 1 (geA K "Rule" "most") (fdG K "Rule" "most") ["self"] (sp_Rule_most K) := by
 refine FunD.ok T.pr_Rule_most.F sc_Rule_most (fun vs H0 Q E h => ?_) (fun cdv A outer s H0 vs Q E hr h => ?_)
 ·
  obtain ⟨_, _, _, _, rfl, _⟩ := h
  rfl
 ·
  obtain ⟨F0, v_self, a_self, r, rfl, hE, f_self, hm, hQ⟩ := h
  refine ⟨_, PSs.nox ((pss_one (ps_ret (pe_dgetO hr.units (pe_fldK (pv 0) rfl) pe_str (fun _ _ => rfl))))), ?_⟩
  have S : Sx P0 F0 H0 F0 H0 := Sx.refl0 hE
  unfold m_Rule_most at hm
  refine rd_ret <| rd_op <| rd_fld <| rd_v rfl ?_
  refine fld_Rule_settings T S f_self (fun u1 f2 => ?_)
  obtain ⟨t3, e4, hm⟩ := bd_some hm
  refine rd_c ?_
  refine rd_dgSd S f2 e4 (fun u5 f6 => ?_)
  obtain ⟨t7, e8, hm⟩ := bd_some hm
  have f9 := thOI_fact f6 e8
  cases hm
  exact hQ _ _ _ S f9
def sp_Rule_tags (K : PySem.W.Frag) : Sp := fun vs H Q _ => ∃ (F : Hp) (v_self : V) (a_self : τ3ₓ) (r : (Option Int)), vs = [v_self] ∧ Same F H ∧ qRule.r K F v_self a_self ∧ m_Rule_tags a_self = some r ∧ ∀ v F' H', Sx P0 F H F' H' → (qO qI).r K F' v r → Q v H'
theorem sc_Rule_tags : FnScope ["self"] ["self"] (defScope s_Rule_tags) := ⟨rfl, rfl, rfl, by decide +kernel, rfl, by decide +kernel, by decide +kernel⟩
theorem bn_Rule_tags (T : Tx P K mg) : Binds K (fdG K "Rule" "tags") ["self"] [] := FunD.bindsN T.pr_Rule_tags.F fun _ _ _ _ _ _ us hl => match us, hl with | [_], _ => rfl
theorem ok_Rule_tags (T : Tx P K mg) : FnOk P w K mg base CX0 1 (geA K "Rule" "tags") (fdG K "Rule" "tags") ["self"] (sp_Rule_tags K) := by
 refine FunD.ok T.pr_Rule_tags.F sc_Rule_tags (fun vs H0 Q E h => ?_) (fun cdv A outer s H0 vs Q E hr h => ?_)
 ·
  obtain ⟨_, _, _, _, rfl, _⟩ := h
  rfl
 ·
  obtain ⟨F0, v_self, a_self, r, rfl, hE, f_self, hm, hQ⟩ := h
  refine ⟨_, PSs.nox ((pss_one (ps_ret (pe_dgetO hr.units (pe_fldK (pv 0) rfl) pe_str (fun _ _ => rfl))))), ?_⟩
  have S : Sx P0 F0 H0 F0 H0 := Sx.refl0 hE
  unfold m_Rule_tags at hm
  refine rd_ret <| rd_op <| rd_fld <| rd_v rfl ?_
  refine fld_Rule_settings T S f_self (fun u1 f2 => ?_)
  obtain ⟨t3, e4, hm⟩ := bd_some hm
  refine rd_c ?_
  refine rd_dgSd S f2 e4 (fun u5 f6 => ?_)
  obtain ⟨t7, e8, hm⟩ := bd_some hm
  have f9 := thOI_fact f6 e8
  cases hm
  exact hQ _ _ _ S f9
def sp_Rule_alone (K : PySem.W.Frag) : Sp := fun vs H Q _ => ∃ (F : Hp) (v_self : V) (a_self : τ3ₓ) (r : Bool), vs = [v_self] ∧ Same F H ∧ qRule.r K F v_self a_self ∧ m_Rule_alone a_self = some r ∧ ∀ v F' H', Sx P0 F H F' H' → qB.r K F' v r → Q v H'
theorem sc_Rule_alone : FnScope ["self"] ["self"] (defScope s_Rule_alone) := ⟨rfl, rfl, rfl, by decide +kernel, rfl, by decide +kernel, by decide +kernel⟩
theorem bn_Rule_alone (T : Tx P K mg) : Binds K (fdG K "Rule" "alone") ["self"] [] := FunD.bindsN T.pr_Rule_alone.F fun _ _ _ _ _ _ us hl => match us, hl with | [_], _ => rfl
theorem ok_Rule_alone (T : Tx P K mg) : FnOk P w K mg base CX0 1 (geA K "Rule" "alone") (fdG K "Rule" "alone") ["self"] (sp_Rule_alone K) := by
 refine FunD.ok T.pr_Rule_alone.F sc_Rule_alone (fun vs H0 Q E h => ?_) (fun cdv A outer s H0 vs Q E hr h => ?_)
 ·
  obtain ⟨_, _, _, _, rfl, _⟩ := h
  rfl
 ·
  obtain ⟨F0, v_self, a_self, r, rfl, hE, f_self, hm, hQ⟩ := h
  refine ⟨_, PSs.nox ((pss_one (ps_ret (pe_dgetO hr.units (pe_fldK (pv 0) rfl) pe_str (fun _ _ => rfl))))), ?_⟩
  have S : Sx P0 F0 H0 F0 H0 := Sx.refl0 hE
  unfold m_Rule_alone at hm
  refine rd_ret <| rd_op <| rd_fld <| rd_v rfl ?_
  refine fld_Rule_settings T S f_self (fun u1 f2 => ?_)
  obtain ⟨t3, e4, hm⟩ := bd_some hm
  refine rd_c ?_
  refine rd_dgSd S f2 e4 (fun u5 f6 => ?_)
  obtain ⟨t7, e8, hm⟩ := bd_some hm
  have e9 := thB_fact f6 e8
  cases e9
  cases hm
  exact hQ _ _ _ S rfl
def sp_law_statics (K : PySem.W.Frag) : Sp := fun vs H Q _ => ∃ (F : Hp) (v_one : V) (a_one : Pat) (v_two : V) (a_two : Pat) (r : Bool), vs = [v_one, v_two] ∧ Same F H ∧ qPat.r K F v_one a_one ∧ qPat.r K F v_two a_two ∧ m_law_statics a_one a_two = some r ∧ ∀ v F' H', Sx P0 F H F' H' → qB.r K F' v r → Q v H'
theorem sc_law_statics : FnScope ["_law_one", "_law_two", "_law_first", "_law_last", "_law_every", "_law_rule_here"] ["_law_one", "_law_two"] (defScope s_law_statics) := ⟨rfl, rfl, rfl, by decide +kernel, rfl, by decide +kernel, by decide +kernel⟩
theorem bn_law_statics (T : Tx P K mg) : Binds K (fdOf K ("_law_statics", none)) ["_law_one", "_law_two"] [] := FunD.bindsN T.F_law_statics fun _ _ _ _ _ _ us hl => match us, hl with | [_, _], _ => rfl
theorem ok_law_statics (T : Tx P K mg) : FnOk P w K mg base CX0 17 (He.ga K "_law_statics") (fdOf K ("_law_statics", none)) ["_law_one", "_law_two"] (sp_law_statics K) := by
 refine FunD.ok T.F_law_statics sc_law_statics (fun vs H0 Q E h => ?_) (fun cdv A outer s H0 vs Q E hr h => ?_)
 ·
  obtain ⟨_, _, _, _, _, _, rfl, _⟩ := h
  rfl
 ·
  obtain ⟨F0, v_one, a_one, v_two, a_two, r, rfl, hE, f_one, f_two, hm, hQ⟩ := h
  refine ⟨_, PSs.nox ((pss_cons (ps_if (PW.pt (pw_or (pt_not (pt_val (pe_call (ok_law_too_many T) (hr.mono (by decide)) (by rfl) T.g_law_too_many T.F_law_too_many.kp (bn_law_too_many T) .nil pass0 (pa_cons (pv 0) (pa_cons pe_bl pa_nil))))) (pw_or1 (pt_not (pt_val (pe_call (ok_law_too_many T) (hr.mono (by decide)) (by rfl) T.g_law_too_many T.F_law_too_many.kp (bn_law_too_many T) .nil pass0 (pa_cons (pv 1) (pa_cons pe_bl pa_nil)))))))) (pss_one (ps_ret pe_bl)) pss_nil) (pss_cons (ps_if (pt_cmpR op_neI (pe_callB (r := rLenQ K) cr_lenQ (by rfl) T.n_len (by decide +kernel) (pa_cons (pe_meth0 (pe_smK (pe_glob (v := V.ref (He.ga K "Rule")) (by rfl) T.gc_Rule rfl) T.sm_Rule_by_first (ok_Rule_by_first T) (hr.mono (by decide)) pass0 (pa_cons (pv 0) (pa_cons (pv 1) (pa_cons (pv 0) (pa_cons (pv 1) (pa_cons (pv 0) (pa_cons (pv 1) pa_nil))))))) T.c_Rule T.me_Rule_begins (ok_Rule_begins T) (hr.mono (by decide)) (bn_Rule_begins T) .nil pass0) pa_nil)) pe_int (nomark _)) (pss_one (ps_ret pe_bl)) pss_nil) (pss_cons (ps_set (i := 2) sc_law_statics.nd rfl (dk rfl) (pe_smK (pe_glob (v := V.ref (He.ga K "Rule")) (by rfl) T.gc_Rule rfl) T.sm_Rule_by_first (ok_Rule_by_first T) (hr.mono (by decide)) pass0 (pa_cons (pv 0) (pa_cons (pv 1) pa_nil)))) (pss_cons (ps_set (i := 3) sc_law_statics.nd rfl (dk rfl) (pe_smK (pe_glob (v := V.ref (He.ga K "Rule")) (by rfl) T.gc_Rule rfl) T.sm_Rule_by_last (ok_Rule_by_last T) (hr.mono (by decide)) pass0 (pa_cons (pv 1) pa_nil))) (pss_cons (ps_set (i := 4) sc_law_statics.nd rfl (dk rfl) (pe_sm0K (pe_glob (v := V.ref (He.ga K "Rule")) (by rfl) T.gc_Rule rfl) T.sm_Rule_every_line (ok_Rule_every_line T) (hr.mono (by decide)) (bn_Rule_every_line T) pass0)) (pss_cons (ps_if (PW.pt (pw_or (pt_cmpR (r := rNeD K) (op_neD hr.units) (pe_call (ok_law_texts T) (hr.mono (by decide)) (by rfl) T.g_law_texts T.F_law_texts.kp (bn_law_texts T) .nil pass0 (pa_cons (pe_meth0 (pv 2) T.c_Rule T.me_Rule_begins (ok_Rule_begins T) (hr.mono (by decide)) (bn_Rule_begins T) .nil pass0) pa_nil)) (pe_call (ok_law_texts T) (hr.mono (by decide)) (by rfl) T.g_law_texts T.F_law_texts.kp (bn_law_texts T) .nil pass0 (pa_cons (pe_lst (pa_cons (pv 0) (pa_cons (pv 1) pa_nil))) pa_nil)) (nomark _)) (pw_or1 (pt_cmpR (r := rNeNil K) (op_neNil (Nat.lt_of_le_of_lt (Nat.le_add_right _ _) hr.units)) (pe_meth0 (pv 2) T.c_Rule T.me_Rule_ends (ok_Rule_ends T) (hr.mono (by decide)) (bn_Rule_ends T) .nil pass0) (pe_lst pa_nil) (nomark _))))) (pss_one (ps_ret pe_bl)) pss_nil) (pss_cons (ps_if (PW.pt (pw_or (pt_cmpR (r := rNeNil K) (op_neNil (Nat.lt_of_le_of_lt (Nat.le_add_right _ _) hr.units)) (pe_meth0 (pv 3) T.c_Rule T.me_Rule_begins (ok_Rule_begins T) (hr.mono (by decide)) (bn_Rule_begins T) .nil pass0) (pe_lst pa_nil) (nomark _)) (pw_or1 (pt_cmpR (r := rNeD K) (op_neD hr.units) (pe_call (ok_law_texts T) (hr.mono (by decide)) (by rfl) T.g_law_texts T.F_law_texts.kp (bn_law_texts T) .nil pass0 (pa_cons (pe_meth0 (pv 3) T.c_Rule T.me_Rule_ends (ok_Rule_ends T) (hr.mono (by decide)) (bn_Rule_ends T) .nil pass0) pa_nil)) (pe_call (ok_law_texts T) (hr.mono (by decide)) (by rfl) T.g_law_texts T.F_law_texts.kp (bn_law_texts T) .nil pass0 (pa_cons (pe_lst (pa_cons (pv 1) pa_nil)) pa_nil)) (nomark _))))) (pss_one (ps_ret pe_bl)) pss_nil) (pss_cons (ps_if (PW.pt (pw_or (pt_cmpR (r := rNeD K) (op_neD hr.units) (pe_call (ok_law_texts T) (hr.mono (by decide)) (by rfl) T.g_law_texts T.F_law_texts.kp (bn_law_texts T) .nil pass0 (pa_cons (pe_meth0 (pv 4) T.c_Rule T.me_Rule_begins (ok_Rule_begins T) (hr.mono (by decide)) (bn_Rule_begins T) .nil pass0) pa_nil)) (pe_lst (pa_cons pe_str pa_nil)) (nomark _)) (pw_or (pt_cmpR (r := rNeNil K) (op_neNil (Nat.lt_of_le_of_lt (Nat.le_add_right _ _) hr.units)) (pe_meth0 (pv 4) T.c_Rule T.me_Rule_ends (ok_Rule_ends T) (hr.mono (by decide)) (bn_Rule_ends T) .nil pass0) (pe_lst pa_nil) (nomark _)) (pw_or1 (pt_cmpR (r := rNeO K _ (sp_Rule___eq__ K) _) (op_neO (ok_Rule___eq__ T) (hr.mono (by decide)) (bn_Rule___eq__ T) pass0) (pe_smN (pe_glob (v := V.ref (He.ga K "Rule")) (by rfl) T.gc_Rule rfl) T.sm_Rule_by_first (ok_Rule_by_first T) (hr.mono (by decide)) pass0) (pe_make T.mk_Rule (ok_Rule___init__ T) (hr.mono (by decide)) (by rfl) T.gc_Rule (kd_Rule___init__ T).choose_spec.2 (kd_Rule___init__ T).choose_spec.1 pass0 (pa_cons (pe_lst pa_nil) (pa_cons (pe_lst pa_nil) pa_nil))) (nomark _)))))) (pss_one (ps_ret pe_bl)) pss_nil) (pss_cons (ps_for PassesOwn.never rfl (pi_listK (pe_lst (pa_cons (pv 2) (pa_cons (pv 3) (pa_cons (pv 4) pa_nil))))) (pg_name (i := 5) sc_law_statics.nd rfl (dk rfl)) (pss_one (ps_if (PW.pt (pw_or (pt_cmpR op_notN' (pe_prop (pv 5) T.c_Rule T.pr_Rule_most.p (ok_Rule_most T) (hr.mono (by decide)) (bn_Rule_most T) .nil pass0 rfl) pe_non (nomark _)) (pw_or (pt_cmpR op_notN' (pe_prop (pv 5) T.c_Rule T.pr_Rule_tags.p (ok_Rule_tags T) (hr.mono (by decide)) (bn_Rule_tags T) .nil pass0 rfl) pe_non (nomark _)) (pw_or (pt_not (pt_val (pe_prop (pv 5) T.c_Rule T.pr_Rule_alone.p (ok_Rule_alone T) (hr.mono (by decide)) (bn_Rule_alone T) .nil pass0 rfl))) (pw_or1 (pt_val (pe_prop (pv 5) T.c_Rule T.pr_Rule_quiet.p (ok_Rule_quiet T) (hr.mono (by decide)) (bn_Rule_quiet T) .nil pass0 rfl))))))) (pss_one (ps_ret pe_bl)) pss_nil))) (pss_one (ps_ret pe_bl)))))))))))), ?_⟩
  have S : Sx P0 F0 H0 F0 H0 := Sx.refl0 hE
  unfold m_law_statics at hm
  obtain ⟨t1, e2, hm⟩ := bd_some hm
  refine rd_seq <| rd_ifS <| rd_or <| rd_not <| rd_tB <| rd_call <| rd_cons <| rd_v rfl <| rd_cons <| rd_c <| rd_nil ?_
  refine ⟨F0, _, _, _, t1, rfl, S.sub, f_one, e2, fun v6 F3 H4 c5 f7 => ?_⟩
  have S8 := S.call0 c5
  obtain ⟨f_one, f_two⟩ := up2 f_one f_two c5
  cases (show v6 = (V.bl (t1)) from f7)
  obtain ⟨t17, e18, hm⟩ := bd_some hm
  refine rd_b ?_
  refine or_j (fun c H' => c = t17 ∧ ∃ F', Sx P0 F3 H4 F' H') ?_ ?_ ?_
  ·
   intro b19 Q20 q21
   have e18 := if_f e18 b19
   have S22 := Sx.refl0 S8.sub
   obtain ⟨t23, e24, e18⟩ := bd_some e18
   refine rd_not <| rd_tB <| rd_call <| rd_cons <| rd_v rfl <| rd_cons <| rd_c <| rd_nil ?_
   refine ⟨F3, _, _, _, t23, rfl, S22.sub, f_two, e24, fun v28 F25 H26 c27 f29 => ?_⟩
   have S30 := S22.call0 c27
   obtain ⟨f_one, f_two⟩ := up2 f_one f_two c27
   cases (show v28 = (V.bl (t23)) from f29)
   cases e18
   refine rd_b ?_
   exact q21 _ _ ⟨rfl, F25, S30⟩
  ·
   intro b19
   have e18 := if_t e18 b19
   cases e18
   have S31 := Sx.refl0 S8.sub
   exact ⟨rfl, F3, S31⟩
  rintro b35 H33 ⟨rfl, F32, c34⟩
  have S36 := S8.call0 c34
  obtain ⟨f_one, f_two⟩ := up2 f_one f_two c34
  refine if_b hm (fun b37 hm => ?_) (fun b37 hm => ?_)
  ·
   cases hm
   refine rd_ret <| rd_c ?_
   exact hQ _ _ _ S36 rfl
  ·
   refine rd_next <| rd_seq <| rd_ifS <| rd_test <| rd_op <| rd_cb <| rd_cons <| rd_meth ?_
   refine rd_sm ?_
   refine rd_c ?_
   refine sm_at ?_
   refine rd_cons <| rd_v rfl <| rd_cons <| rd_v rfl <| rd_cons <| rd_v rfl <| rd_cons <| rd_v rfl <| rd_cons <| rd_v rfl <| rd_cons <| rd_v rfl <| rd_nil ?_
   refine st_star (xs := [a_one, a_two, a_one, a_two, a_one, a_two]) S36 (.cons f_one (.cons f_two (.cons f_one (.cons f_two (.cons f_one (.cons f_two .nil)))))) rfl (fun v38 F39 H40 c41 f42 => ?_)
   have S43 := S36.call0 c41
   obtain ⟨f_one, f_two⟩ := up2 f_one f_two c41
   obtain ⟨t44, e45, hm⟩ := bd_some hm
   refine ⟨F39, _, _, t44, rfl, S43.sub, f42, e45, fun v49 F46 H47 c48 f50 => ?_⟩
   have S51 := S43.call0 c48
   obtain ⟨f_one, f_two⟩ := up2 f_one f_two c48
   refine mt_Rule_begins S51 f50 ?_
   obtain ⟨t52, e53, hm⟩ := bd_some hm
   refine rd_nil ?_
   refine ⟨F46, _, _, t52, rfl, S51.sub, f50, e53, fun v57 F54 H55 c56 f58 => ?_⟩
   have S59 := S51.call0 c56
   obtain ⟨f_one, f_two⟩ := up2 f_one f_two c56
   refine rd_nil ?_
   refine rd_lenQ (S59.l f58).r.q ?_
   refine rd_c <| rd_I0 <| rd_b ?_
   refine if_b hm (fun b60 hm => ?_) (fun b60 hm => ?_)
   ·
    cases hm
    refine rd_ret <| rd_c ?_
    exact hQ _ _ _ S59 rfl
   ·
    refine rd_next <| rd_seq <| rd_asg ?_
    refine rd_sm ?_
    refine rd_c ?_
    refine sm_at ?_
    refine rd_cons <| rd_v rfl <| rd_cons <| rd_v rfl <| rd_nil ?_
    refine st_star (xs := [a_one, a_two]) S59 (.cons f_one (.cons f_two .nil)) rfl (fun v61 F62 H63 c64 f65 => ?_)
    have S66 := S59.call0 c64
    obtain ⟨f_one, f_two⟩ := up2 f_one f_two c64
    obtain ⟨t67, e68, hm⟩ := bd_some hm
    refine ⟨F62, _, _, t67, rfl, S66.sub, f65, e68, fun v72 F69 H70 c71 f73 => ?_⟩
    have S74 := S66.call0 c71
    obtain ⟨f_one, f_two⟩ := up2 f_one f_two c71
    refine rd_gn <| rd_seq <| rd_asg ?_
    refine rd_sm ?_
    refine rd_c ?_
    refine sm_at ?_
    refine rd_cons <| rd_v rfl <| rd_nil ?_
    refine st_star (xs := [a_two]) S74 (.cons f_two .nil) rfl (fun v75 F76 H77 c78 f79 => ?_)
    have S80 := S74.call0 c78
    obtain ⟨f_one, f_two, f73⟩ := up3 f_one f_two f73 c78
    obtain ⟨t81, e82, hm⟩ := bd_some hm
    refine ⟨F76, _, _, t81, rfl, S80.sub, f79, e82, fun v86 F83 H84 c85 f87 => ?_⟩
    have S88 := S80.call0 c85
    obtain ⟨f_one, f_two, f73⟩ := up3 f_one f_two f73 c85
    obtain ⟨t89, e90, hm⟩ := bd_some hm
    refine rd_gn <| rd_seq <| rd_asg ?_
    refine rd_sm ?_
    refine rd_c ?_
    refine sm_at ?_
    refine rd_nil ?_
    refine ⟨F83, t89, rfl, S88.sub, e90, fun v94 F91 H92 c93 f95 => ?_⟩
    have S96 := S88.call0 c93
    obtain ⟨f_one, f_two, f73, f87⟩ := up4 f_one f_two f73 f87 c93
    refine rd_gn <| rd_seq <| rd_ifS <| rd_or <| rd_test <| rd_op <| rd_call <| rd_cons <| rd_meth <| rd_v rfl ?_
    refine mt_Rule_begins S96 f73 ?_
    obtain ⟨t97, e98, hm⟩ := bd_some hm
    refine rd_nil ?_
    refine ⟨F91, _, _, t97, rfl, S96.sub, f73, e98, fun v102 F99 H100 c101 f103 => ?_⟩
    have S104 := S96.call0 c101
    obtain ⟨f_one, f_two, f73, f87, f95⟩ := up5 f_one f_two f73 f87 f95 c101
    obtain ⟨t105, e106, hm⟩ := bd_some hm
    refine rd_nil ?_
    refine ⟨F99, _, _, t105, rfl, S104.sub, f103, e106, fun v110 F107 H108 c109 f111 => ?_⟩
    have S112 := S104.call0 c109
    obtain ⟨f_one, f_two, f73, f87, f95⟩ := up5 f_one f_two f73 f87 f95 c109
    refine rd_call <| rd_cons <| rd_lst <| rd_cons <| rd_v rfl <| rd_cons <| rd_v rfl <| rd_nil <| rd_lK rfl ?_
    refine alL (K := K) (A := qPat) (xs := [a_one, a_two]) S112 (.cons f_one (.cons f_two .nil)) (fun v113 F114 H115 c116 f117 => ?_)
    have S118 := S112.call0 c116
    obtain ⟨f_one, f_two, f73, f87, f95, f111⟩ := up6 f_one f_two f73 f87 f95 f111 c116
    obtain ⟨t119, e120, hm⟩ := bd_some hm
    refine rd_nil ?_
    refine ⟨F114, _, _, t119, rfl, S118.sub, f117, e120, fun v124 F121 H122 c123 f125 => ?_⟩
    have S126 := S118.call0 c123
    obtain ⟨f_one, f_two, f73, f87, f95, f111⟩ := up6 f_one f_two f73 f87 f95 f111 c123
    obtain ⟨g127, hm⟩ := gd_some hm
    obtain ⟨g128, hm⟩ := gd_some hm
    obtain ⟨t143, e144, hm⟩ := bd_some hm
    refine rd_neD (D := (dL dS)) (S126.d (dL dS) f111) (S126.d (dL dS) f125) g127 g128 ?_
    refine rd_b ?_
    refine or_j (fun c H' => c = t143 ∧ ∃ F', Sx P0 F121 H122 F' H') ?_ ?_ ?_
    ·
     intro b145 Q146 q147
     have e144 := if_f e144 b145
     have S148 := Sx.refl0 S126.sub
     refine rd_test <| rd_op <| rd_meth <| rd_v rfl ?_
     refine mt_Rule_ends S148 f73 ?_
     obtain ⟨t149, e150, e144⟩ := bd_some e144
     refine rd_nil ?_
     refine ⟨F121, _, _, t149, rfl, S148.sub, f73, e150, fun v154 F151 H152 c153 f155 => ?_⟩
     have S156 := S148.call0 c153
     obtain ⟨f_one, f_two, f73, f87, f95⟩ := up5 f_one f_two f73 f87 f95 c153
     refine rd_lst <| rd_nil <| rd_lK rfl ?_
     refine alL (K := K) (A := qPat) (xs := ([] : List Pat)) S156 .nil (fun v157 F158 H159 c160 f161 => ?_)
     have S162 := S156.call0 c160
     obtain ⟨f_one, f_two, f73, f87, f95, f155⟩ := up6 f_one f_two f73 f87 f95 f155 c160
     cases e144
     refine rd_neNil (B := qPat) (S162.l f155).r (S162.l f161).r ?_
     refine rd_b ?_
     exact q147 _ _ ⟨rfl, F158, S162⟩
    ·
     intro b145
     have e144 := if_t e144 b145
     cases e144
     have S163 := Sx.refl0 S126.sub
     exact ⟨rfl, F121, S163⟩
    rintro b167 H165 ⟨rfl, F164, c166⟩
    have S168 := S126.call0 c166
    obtain ⟨f_one, f_two, f73, f87, f95⟩ := up5 f_one f_two f73 f87 f95 c166
    refine if_b hm (fun b169 hm => ?_) (fun b169 hm => ?_)
    ·
     cases hm
     refine rd_ret <| rd_c ?_
     exact hQ _ _ _ S168 rfl
    ·
     refine rd_next <| rd_seq <| rd_ifS <| rd_or <| rd_test <| rd_op <| rd_meth <| rd_v rfl ?_
     refine mt_Rule_begins S168 f87 ?_
     obtain ⟨t170, e171, hm⟩ := bd_some hm
     refine rd_nil ?_
     refine ⟨F164, _, _, t170, rfl, S168.sub, f87, e171, fun v175 F172 H173 c174 f176 => ?_⟩
     have S177 := S168.call0 c174
     obtain ⟨f_one, f_two, f73, f87, f95⟩ := up5 f_one f_two f73 f87 f95 c174
     refine rd_lst <| rd_nil <| rd_lK rfl ?_
     refine alL (K := K) (A := qPat) (xs := ([] : List Pat)) S177 .nil (fun v178 F179 H180 c181 f182 => ?_)
     have S183 := S177.call0 c181
     obtain ⟨f_one, f_two, f73, f87, f95, f176⟩ := up6 f_one f_two f73 f87 f95 f176 c181
     obtain ⟨t216, e217, hm⟩ := bd_some hm
     refine rd_neNil (B := qPat) (S183.l f176).r (S183.l f182).r ?_
     refine rd_b ?_
     refine or_j (fun c H' => c = t216 ∧ ∃ F', Sx P0 F179 H180 F' H') ?_ ?_ ?_
     ·
      intro b218 Q219 q220
      have e217 := if_f e217 b218
      have S221 := Sx.refl0 S183.sub
      refine rd_test <| rd_op <| rd_call <| rd_cons <| rd_meth <| rd_v rfl ?_
      refine mt_Rule_ends S221 f87 ?_
      obtain ⟨t222, e223, e217⟩ := bd_some e217
      refine rd_nil ?_
      refine ⟨F179, _, _, t222, rfl, S221.sub, f87, e223, fun v227 F224 H225 c226 f228 => ?_⟩
      have S229 := S221.call0 c226
      obtain ⟨f_one, f_two, f73, f87, f95⟩ := up5 f_one f_two f73 f87 f95 c226
      obtain ⟨t230, e231, e217⟩ := bd_some e217
      refine rd_nil ?_
      refine ⟨F224, _, _, t230, rfl, S229.sub, f228, e231, fun v235 F232 H233 c234 f236 => ?_⟩
      have S237 := S229.call0 c234
      obtain ⟨f_one, f_two, f73, f87, f95⟩ := up5 f_one f_two f73 f87 f95 c234
      refine rd_call <| rd_cons <| rd_lst <| rd_cons <| rd_v rfl <| rd_nil <| rd_lK rfl ?_
      refine alL (K := K) (A := qPat) (xs := [a_two]) S237 (.cons f_two .nil) (fun v238 F239 H240 c241 f242 => ?_)
      have S243 := S237.call0 c241
      obtain ⟨f_one, f_two, f73, f87, f95, f236⟩ := up6 f_one f_two f73 f87 f95 f236 c241
      obtain ⟨t244, e245, e217⟩ := bd_some e217
      refine rd_nil ?_
      refine ⟨F239, _, _, t244, rfl, S243.sub, f242, e245, fun v249 F246 H247 c248 f250 => ?_⟩
      have S251 := S243.call0 c248
      obtain ⟨f_one, f_two, f73, f87, f95, f236⟩ := up6 f_one f_two f73 f87 f95 f236 c248
      obtain ⟨g252, e217⟩ := gd_some e217
      obtain ⟨g253, e217⟩ := gd_some e217
      cases e217
      refine rd_neD (D := (dL dS)) (S251.d (dL dS) f236) (S251.d (dL dS) f250) g252 g253 ?_
      refine rd_b ?_
      exact q220 _ _ ⟨rfl, F246, S251⟩
     ·
      intro b218
      have e217 := if_t e217 b218
      cases e217
      have S254 := Sx.refl0 S183.sub
      exact ⟨rfl, F179, S254⟩
     rintro b258 H256 ⟨rfl, F255, c257⟩
     have S259 := S183.call0 c257
     obtain ⟨f_one, f_two, f73, f87, f95⟩ := up5 f_one f_two f73 f87 f95 c257
     refine if_b hm (fun b260 hm => ?_) (fun b260 hm => ?_)
     ·
      cases hm
      refine rd_ret <| rd_c ?_
      exact hQ _ _ _ S259 rfl
     ·
      refine rd_next <| rd_seq <| rd_ifS <| rd_or <| rd_test <| rd_op <| rd_call <| rd_cons <| rd_meth <| rd_v rfl ?_
      refine mt_Rule_begins S259 f95 ?_
      obtain ⟨t261, e262, hm⟩ := bd_some hm
      refine rd_nil ?_
      refine ⟨F255, _, _, t261, rfl, S259.sub, f95, e262, fun v266 F263 H264 c265 f267 => ?_⟩
      have S268 := S259.call0 c265
      obtain ⟨f_one, f_two, f73, f87, f95⟩ := up5 f_one f_two f73 f87 f95 c265
      obtain ⟨t269, e270, hm⟩ := bd_some hm
      refine rd_nil ?_
      refine ⟨F263, _, _, t269, rfl, S268.sub, f267, e270, fun v274 F271 H272 c273 f275 => ?_⟩
      have S276 := S268.call0 c273
      obtain ⟨f_one, f_two, f73, f87, f95⟩ := up5 f_one f_two f73 f87 f95 c273
      refine rd_lst <| rd_cons <| rd_c <| rd_nil <| rd_lK rfl ?_
      refine alL (K := K) (A := qS) (xs := [("<any>" : Str)]) S276 (.cons rfl .nil) (fun v277 F278 H279 c280 f281 => ?_)
      have S282 := S276.call0 c280
      obtain ⟨f_one, f_two, f73, f87, f95, f275⟩ := up6 f_one f_two f73 f87 f95 f275 c280
      obtain ⟨g283, hm⟩ := gd_some hm
      obtain ⟨g284, hm⟩ := gd_some hm
      obtain ⟨t395, e396, hm⟩ := bd_some hm
      refine rd_neD (D := (dL dS)) (S282.d (dL dS) f275) (S282.d (dL dS) f281) g283 g284 ?_
      refine rd_b ?_
      refine or_j (fun c H' => c = t395 ∧ ∃ F', Sx P0 F278 H279 F' H') ?_ ?_ ?_
      ·
       intro b397 Q398 q399
       have e396 := if_f e396 b397
       have S400 := Sx.refl0 S282.sub
       refine rd_or <| rd_test <| rd_op <| rd_meth <| rd_v rfl ?_
       refine mt_Rule_ends S400 f95 ?_
       obtain ⟨t401, e402, e396⟩ := bd_some e396
       refine rd_nil ?_
       refine ⟨F278, _, _, t401, rfl, S400.sub, f95, e402, fun v406 F403 H404 c405 f407 => ?_⟩
       have S408 := S400.call0 c405
       obtain ⟨f_one, f_two, f73, f87, f95⟩ := up5 f_one f_two f73 f87 f95 c405
       refine rd_lst <| rd_nil <| rd_lK rfl ?_
       refine alL (K := K) (A := qPat) (xs := ([] : List Pat)) S408 .nil (fun v409 F410 H411 c412 f413 => ?_)
       have S414 := S408.call0 c412
       obtain ⟨f_one, f_two, f73, f87, f95, f407⟩ := up6 f_one f_two f73 f87 f95 f407 c412
       obtain ⟨t457, e458, e396⟩ := bd_some e396
       refine rd_neNil (B := qPat) (S414.l f407).r (S414.l f413).r ?_
       refine rd_b ?_
       refine or_j (fun c H' => c = t457 ∧ ∃ F', Sx P0 F410 H411 F' H') ?_ ?_ ?_
       ·
        intro b459 Q460 q461
        have e458 := if_f e458 b459
        have S462 := Sx.refl0 S414.sub
        refine rd_test <| rd_op ?_
        refine rd_sm ?_
        refine rd_c ?_
        refine sm_at ?_
        refine rd_nil ?_
        refine st_star (A := qPat) (K := K) (xs := ([] : List Pat)) S462 .nil rfl (fun v463 F464 H465 c466 f467 => ?_)
        have S468 := S462.call0 c466
        obtain ⟨f_one, f_two, f73, f87, f95⟩ := up5 f_one f_two f73 f87 f95 c466
        obtain ⟨t469, e470, e458⟩ := bd_some e458
        refine ⟨F464, _, _, t469, rfl, S468.sub, f467, e470, fun v474 F471 H472 c473 f475 => ?_⟩
        have S476 := S468.call0 c473
        obtain ⟨f_one, f_two, f73, f87, f95⟩ := up5 f_one f_two f73 f87 f95 c473
        refine rd_makeD ?_
        refine rd_cons <| rd_lst <| rd_nil <| rd_lK rfl ?_
        refine alL (K := K) (A := qPat) (xs := ([] : List Pat)) S476 .nil (fun v477 F478 H479 c480 f481 => ?_)
        have S482 := S476.call0 c480
        obtain ⟨f_one, f_two, f73, f87, f95, f475⟩ := up6 f_one f_two f73 f87 f95 f475 c480
        refine rd_cons <| rd_lst <| rd_nil <| rd_lK rfl ?_
        refine alL (K := K) (A := qPat) (xs := ([] : List Pat)) S482 .nil (fun v483 F484 H485 c486 f487 => ?_)
        have S488 := S482.call0 c486
        obtain ⟨f_one, f_two, f73, f87, f95, f475⟩ := up6 f_one f_two f73 f87 f95 f475 c486
        have f481 := f481.up c486
        obtain ⟨t489, e490, e458⟩ := bd_some e458
        refine rd_nil ?_
        refine mkd_at (rest := [v477, v483, (V.non), (V.bl true), (V.non), (V.bl false)]) rfl ?_
        refine new_Rule S488 f481 f487 (show qTh.r K F484 (V.non) (Th.d .none) from Dp.non) (show qTh.r K F484 (V.bl true) (Th.d (.bool true)) from Dp.bl _) (show qTh.r K F484 (V.non) (Th.d .none) from Dp.non) (show qTh.r K F484 (V.bl false) (Th.d (.bool false)) from Dp.bl _) e490 (fun v491 F492 H493 c494 f495 => ?_)
        have S496 := S488.call0 c494
        obtain ⟨f_one, f_two, f73, f87, f95, f475⟩ := up6 f_one f_two f73 f87 f95 f475 c494
        obtain ⟨t497, e498, e458⟩ := bd_some e458
        refine on_Rule T.oe_Rule S496 f475 f495 ?_
        refine ⟨F492, _, _, _, _, t497, rfl, S496.sub, f475, f495, e498, fun v502 F499 H500 c501 f503 => ?_⟩
        have S504 := S496.call0 c501
        obtain ⟨f_one, f_two, f73, f87, f95⟩ := up5 f_one f_two f73 f87 f95 c501
        cases (show v502 = (V.bl (t497)) from f503)
        cases e458
        refine rd_neK ?_
        refine rd_b ?_
        exact q461 _ _ ⟨rfl, F499, S504⟩
       ·
        intro b459
        have e458 := if_t e458 b459
        cases e458
        have S505 := Sx.refl0 S414.sub
        exact ⟨rfl, F410, S505⟩
       rintro b509 H507 ⟨rfl, F506, c508⟩
       have S510 := S414.call0 c508
       obtain ⟨f_one, f_two, f73, f87, f95⟩ := up5 f_one f_two f73 f87 f95 c508
       cases e396
       exact q399 _ _ ⟨rfl, F506, S510⟩
      ·
       intro b397
       have e396 := if_t e396 b397
       cases e396
       have S511 := Sx.refl0 S282.sub
       exact ⟨rfl, F278, S511⟩
      rintro b515 H513 ⟨rfl, F512, c514⟩
      have S516 := S282.call0 c514
      obtain ⟨f_one, f_two, f73, f87, f95⟩ := up5 f_one f_two f73 f87 f95 c514
      refine if_b hm (fun b517 hm => ?_) (fun b517 hm => ?_)
      ·
       cases hm
       refine rd_ret <| rd_c ?_
       exact hQ _ _ _ S516 rfl
      ·
       refine rd_next <| rd_seq <| rd_for <| rd_iL <| rd_lst <| rd_cons <| rd_v rfl <| rd_cons <| rd_v rfl <| rd_cons <| rd_v rfl <| rd_nil <| rd_lK rfl ?_
       refine alL (K := K) (A := qRule) (xs := [t67, t81, t89]) S516 (.cons f73 (.cons f87 (.cons f95 .nil))) (fun v518 F519 H520 c521 f522 => ?_)
       have S523 := S516.call0 c521
       obtain ⟨f_one, f_two, f73, f87, f95⟩ := up5 f_one f_two f73 f87 f95 c521
       refine rd_wLF S523 (f522) (fun p524 vs525 hq526 row527 => ?_)
       obtain ⟨t528, e529, hm⟩ := bd_some hm
       refine rd_forC feedsL (typedRow row527) e529 (fun (s530 : Unit) σ H => ∃ (F : Hp) (o5 : Option V), σ = [some v_one, some v_two, some v72, some v86, some v94, o5] ∧ Sx P0 F519 H520 F H) ?_ ?_ ?_ ?_
       ·
        rintro _ _ _ ⟨_, _, _, S531⟩
        exact (Same.seq S531.sub (Same.seq S531.le hq526))
       ·
        have S532 := Sx.refl0 S523.sub
        exact ⟨F519, _, rfl, S532⟩
       ·
        rintro x533 v534 s535 c539 σ536 H537 f538 ⟨F540, o542, rfl, S541⟩ hm545 hbk543 hrt544
        obtain ⟨f_one, f_two, f73, f87, f95⟩ := up5 f_one f_two f73 f87 f95 S541
        unfold m_law_statics_b1 at hm545
        have f538 := f538.up S541
        refine rd_gn <| rd_ifS <| rd_or <| rd_test <| rd_op <| rd_prop <| rd_v rfl ?_
        refine pr_Rule_most S541 f538 ?_
        obtain ⟨t546, e547, hm545⟩ := bd_some hm545
        refine ⟨F540, _, _, t546, rfl, S541.sub, f538, e547, fun v551 F548 H549 c550 f552 => ?_⟩
        have S553 := S541.call0 c550
        obtain ⟨f_one, f_two, f73, f87, f95, f538⟩ := up6 f_one f_two f73 f87 f95 f538 c550
        obtain ⟨t646, e647, hm545⟩ := bd_some hm545
        refine rd_c ?_
        refine rd_notN (A := qI) f552 ?_
        refine rd_b ?_
        refine or_j (fun c H' => c = t646 ∧ ∃ F', Sx P0 F548 H549 F' H') ?_ ?_ ?_
        ·
         intro b648 Q649 q650
         have e647 := if_f e647 b648
         have S651 := Sx.refl0 S553.sub
         refine rd_or <| rd_test <| rd_op <| rd_prop <| rd_v rfl ?_
         refine pr_Rule_tags S651 f538 ?_
         obtain ⟨t652, e653, e647⟩ := bd_some e647
         refine ⟨F548, _, _, t652, rfl, S651.sub, f538, e653, fun v657 F654 H655 c656 f658 => ?_⟩
         have S659 := S651.call0 c656
         obtain ⟨f_one, f_two, f73, f87, f95, f538⟩ := up6 f_one f_two f73 f87 f95 f538 c656
         obtain ⟨t696, e697, e647⟩ := bd_some e647
         refine rd_c ?_
         refine rd_notN (A := qI) f658 ?_
         refine rd_b ?_
         refine or_j (fun c H' => c = t696 ∧ ∃ F', Sx P0 F654 H655 F' H') ?_ ?_ ?_
         ·
          intro b698 Q699 q700
          have e697 := if_f e697 b698
          have S701 := Sx.refl0 S659.sub
          refine rd_or <| rd_not <| rd_tB <| rd_prop <| rd_v rfl ?_
          refine pr_Rule_alone S701 f538 ?_
          obtain ⟨t702, e703, e697⟩ := bd_some e697
          refine ⟨F654, _, _, t702, rfl, S701.sub, f538, e703, fun v707 F704 H705 c706 f708 => ?_⟩
          have S709 := S701.call0 c706
          obtain ⟨f_one, f_two, f73, f87, f95, f538⟩ := up6 f_one f_two f73 f87 f95 f538 c706
          cases (show v707 = (V.bl (t702)) from f708)
          obtain ⟨t718, e719, e697⟩ := bd_some e697
          refine rd_b ?_
          refine or_j (fun c H' => c = t718 ∧ ∃ F', Sx P0 F704 H705 F' H') ?_ ?_ ?_
          ·
           intro b720 Q721 q722
           have e719 := if_f e719 b720
           have S723 := Sx.refl0 S709.sub
           refine rd_tB <| rd_prop <| rd_v rfl ?_
           refine pr_Rule_quiet S723 f538 ?_
           obtain ⟨t724, e725, e719⟩ := bd_some e719
           refine ⟨F704, _, _, t724, rfl, S723.sub, f538, e725, fun v729 F726 H727 c728 f730 => ?_⟩
           have S731 := S723.call0 c728
           obtain ⟨f_one, f_two, f73, f87, f95, f538⟩ := up6 f_one f_two f73 f87 f95 f538 c728
           cases (show v729 = (V.bl (t724)) from f730)
           cases e719
           refine rd_b ?_
           exact q722 _ _ ⟨rfl, F726, S731⟩
          ·
           intro b720
           have e719 := if_t e719 b720
           cases e719
           have S732 := Sx.refl0 S709.sub
           exact ⟨rfl, F704, S732⟩
          rintro b736 H734 ⟨rfl, F733, c735⟩
          have S737 := S709.call0 c735
          obtain ⟨f_one, f_two, f73, f87, f95, f538⟩ := up6 f_one f_two f73 f87 f95 f538 c735
          cases e697
          exact q700 _ _ ⟨rfl, F733, S737⟩
         ·
          intro b698
          have e697 := if_t e697 b698
          cases e697
          have S738 := Sx.refl0 S659.sub
          exact ⟨rfl, F654, S738⟩
         rintro b742 H740 ⟨rfl, F739, c741⟩
         have S743 := S659.call0 c741
         obtain ⟨f_one, f_two, f73, f87, f95, f538⟩ := up6 f_one f_two f73 f87 f95 f538 c741
         cases e647
         exact q650 _ _ ⟨rfl, F739, S743⟩
        ·
         intro b648
         have e647 := if_t e647 b648
         cases e647
         have S744 := Sx.refl0 S553.sub
         exact ⟨rfl, F548, S744⟩
        rintro b748 H746 ⟨rfl, F745, c747⟩
        have S749 := S553.call0 c747
        obtain ⟨f_one, f_two, f73, f87, f95, f538⟩ := up6 f_one f_two f73 f87 f95 f538 c747
        refine if_b hm545 (fun b750 hm545 => ?_) (fun b750 hm545 => ?_)
        ·
         cases hm545
         have e751 := hrt544 _ rfl
         subst e751
         have hm := aft_rt hm
         have S752 := S523.call0 S749
         cases hm
         refine rd_ret <| rd_c ?_
         exact hQ _ _ _ S752 rfl
        ·
         cases hm545
         refine rd_next ?_
         exact ⟨_, rfl, ⟨F745, _, rfl, S749⟩⟩
       ·
        rintro s755 σ753 H754 e756 ⟨F757, o759, rfl, S758⟩
        subst e756
        have hm := aft_nx hm
        have S760 := S523.call0 S758
        obtain ⟨f_one, f_two, f73, f87, f95⟩ := up5 f_one f_two f73 f87 f95 S758
        cases hm
        refine rd_ret <| rd_c ?_
        exact hQ _ _ _ S760 rfl
def sp_law_mixed (K : PySem.W.Frag) : Sp := fun vs H Q _ => ∃ (F : Hp) (p_pool_here : Addr) (a_pool_here : Int × Int) (v_trees : V) (a_trees : (List τ4ₓ)) (r : ((List τ4ₓ) × (Int × Int))), vs = [.ref p_pool_here, v_trees] ∧ Same F H ∧ Ow (fun a => a = p_pool_here) H F H p_pool_here (.lst [.int a_pool_here.1, .int a_pool_here.2]) ∧ (qL τ0ₓ).r K F v_trees a_trees ∧ m_law_mixed a_pool_here a_trees = some r ∧ ∀ v F' H', Sx (fun a => a = p_pool_here) F H F' H' → Ow (fun a => a = p_pool_here) H F' H' p_pool_here (.lst [.int r.2.1, .int r.2.2]) → (qL τ0ₓ).r K F' v r.1 → Q v H'
theorem sc_law_mixed : FnScope ["_law_pool_here", "_law_trees", "_law_found", "_law_tree_here"] ["_law_pool_here", "_law_trees"] (defScope s_law_mixed) := ⟨rfl, rfl, rfl, by decide +kernel, rfl, by decide +kernel, by decide +kernel⟩
theorem bn_law_mixed (T : Tx P K mg) : Binds K (fdOf K ("_law_mixed", none)) ["_law_pool_here", "_law_trees"] [] := FunD.bindsN T.F_law_mixed fun _ _ _ _ _ _ us hl => match us, hl with | [_, _], _ => rfl
theorem ok_law_mixed (T : Tx P K mg) : FnOk P w K mg base CX0 5 (He.ga K "_law_mixed") (fdOf K ("_law_mixed", none)) ["_law_pool_here", "_law_trees"] (sp_law_mixed K) := by
 refine FunD.ok T.F_law_mixed sc_law_mixed (fun vs H0 Q E h => ?_) (fun cdv A outer s H0 vs Q E hr h => ?_)
 ·
  obtain ⟨_, _, _, _, _, _, rfl, _⟩ := h
  rfl
 ·
  obtain ⟨F0, p_pool_here, a_pool_here, v_trees, a_trees, r, rfl, hE, w_pool_here, f_trees, hm, hQ⟩ := h
  refine ⟨_, PSs.nox ((pss_cons (ps_set (i := 2) sc_law_mixed.nd rfl (dk rfl) (pe_lst pa_nil)) (pss_cons (ps_for PassesOwn.never rfl (pi_listK (pv 1)) (pg_name (i := 3) sc_law_mixed.nd rfl (dk rfl)) (C8.pss_cut (ps_if (pt_cmpR op_gt (pe_call (ok_law_take T) (hr.mono (by decide)) (by rfl) T.g_law_take T.F_law_take.kp (bn_law_take T) .nil pass0 (pa_cons (pv 0) (pa_cons pe_int pa_nil))) pe_int (nomark _)) (pss_one (ps_expr (pe_bmK (K := K) PySem.F.plainAttrs_list PySem.F.slot_list_insert PySem.F.type_list_insert mt_insertK (pv 2) (pa_cons (pe_call (ok_law_take T) (hr.mono (by decide)) (by rfl) T.g_law_take T.F_law_take.kp (bn_law_take T) .nil pass0 (pa_cons (pv 0) (pa_cons (pe_op op_add (pe_callB (r := rLenQ K) cr_lenQ (by rfl) T.n_len (by decide +kernel) (pa_cons (pv 2) pa_nil)) pe_int) pa_nil))) (pa_cons (pv 3) pa_nil))))) pss_nil) (pss_one (ps_if (PW.pt (pw_and (pt_cmpR op_eqI (pe_call (ok_law_take T) (hr.mono (by decide)) (by rfl) T.g_law_take T.F_law_take.kp (bn_law_take T) .nil pass0 (pa_cons (pv 0) (pa_cons pe_int pa_nil))) pe_int (nomark _)) (pw_and1 (pt_cmpR op_lt (pe_callB (r := rLenQ K) cr_lenQ (by rfl) T.n_len (by decide +kernel) (pa_cons (pv 2) pa_nil)) pe_int (nomark _))))) (pss_one (ps_expr (pe_bmK (K := K) PySem.F.plainAttrs_list PySem.F.slot_list_append PySem.F.type_list_append mt_append (pv 2) (pa_cons (pv 3) pa_nil)))) pss_nil)))) (C8.pss_cut (ps_if (PW.pt (pw_and (pt_cmpR op_eqI (pe_call (ok_law_take T) (hr.mono (by decide)) (by rfl) T.g_law_take T.F_law_take.kp (bn_law_take T) .nil pass0 (pa_cons (pv 0) (pa_cons pe_int pa_nil))) pe_int (nomark _)) (pw_and1 (pt_cmpR op_lt (pe_callB (r := rLenQ K) cr_lenQ (by rfl) T.n_len (by decide +kernel) (pa_cons (pv 2) pa_nil)) pe_int (nomark _))))) (pss_one (ps_expr (pe_bmK (K := K) PySem.F.plainAttrs_list PySem.F.slot_list_append PySem.F.type_list_append mt_append (pv 2) (pa_cons (pe_call (ok_law_tree T) (hr.mono (by decide)) (by rfl) T.g_law_tree T.F_law_tree.kp (bn_law_tree T) .nil pass0 (pa_cons (pv 0) pa_nil)) pa_nil)))) pss_nil) (pss_one (ps_ret (pe_slice (r := rSlL K) sl_list (pv 2) po_none (po_some pe_int)))))))), ?_⟩
  have S : Sx (fun a => a = p_pool_here) F0 H0 F0 H0 := Sx.refl hE (live1 w_pool_here)
  unfold m_law_mixed at hm
  refine rd_seq <| rd_asg <| rd_lst <| rd_nil <| rd_lK rfl ?_
  refine al S (fun p1 H2 np3 c4 w5 => ?_)
  have r6 : Row τ0ₓ K F0 [] ([] : List τ4ₓ) := .nil
  have ne7 : p_pool_here ≠ p1 := w_pool_here.ne np3
  have z8 := S.free0 np3
  have S9 := S.call0 c4
  have f_trees := f_trees.up c4
  have w_pool_here := w_pool_here.call0 c4
  refine rd_gn <| rd_seq <| rd_for <| rd_iL <| rd_v rfl ?_
  refine rd_wLF S9 (f_trees) (fun p10 vs11 hq12 row13 => ?_)
  obtain ⟨t14, e15, hm⟩ := bd_some hm
  refine rd_forS feedsL (typedRow row13) e15 (fun (s16 : ((Int × Int) × (List τ4ₓ))) σ H => ∃ (F : Hp) (o3 : Option V) (vs1 : List V), σ = [some (V.ref p_pool_here), some v_trees, some (V.ref p1), o3] ∧ Sx (fun a => a = p_pool_here ∨ a = p1) F0 H2 F H ∧ Ow (fun a => a = p_pool_here ∨ a = p1) H2 F H p_pool_here (.lst [V.int s16.1.1, V.int s16.1.2]) ∧ Ow (fun a => a = p_pool_here ∨ a = p1) H2 F H p1 (.lst vs1) ∧ Row τ0ₓ K F vs1 s16.2) ?_ ?_ ?_ ?_
  ·
   rintro _ _ _ ⟨_, _, _, _, S17, _, _, _⟩
   exact (Same.seq S17.sub (Same.seq S17.le hq12))
  ·
   have S18 : Sx (fun a => a = p_pool_here ∨ a = p1) _ _ _ _ := Sx.refl S9.sub (by
     rintro a (rfl | rfl)
     ·
      rw [w_pool_here.at_]; exact (fun h => nomatch h)
     ·
      rw [w5.at_]; exact (fun h => nomatch h))
   have w19 : Ow (fun a => a = p_pool_here ∨ a = p1) H2 _ _ _ _ := ⟨w_pool_here.fr, w_pool_here.at_, .inr (Or.inl rfl)⟩
   have w20 : Ow (fun a => a = p_pool_here ∨ a = p1) H2 _ _ _ _ := ⟨w5.fr, w5.at_, .inr (Or.inr (rfl))⟩
   exact ⟨F0, _, _, rfl, S18, w19, w20, r6⟩
  ·
   rintro x21 v22 s23 c27 σ24 H25 f26 ⟨F28, o30, v31, rfl, S29, w32, w33, r34⟩ hm37
   have f_trees := f_trees.up S29
   unfold m_law_mixed_b1 at hm37
   have f26 := f26.up S29
   obtain ⟨t38, e39, hm37⟩ := bd_some hm37
   refine rd_gn ?_
   refine rd_cut (fun σ' H' => ∃ (F : Hp) (vs1 : List V), σ' = [some (V.ref p_pool_here), some v_trees, some (V.ref p1), some v22] ∧ Sx (fun a => a = p_pool_here ∨ a = p1) F28 H25 F H' ∧ Ow (fun a => a = p_pool_here ∨ a = p1) H25 F H' p_pool_here (.lst [V.int t38.1.1, V.int t38.1.2]) ∧ Ow (fun a => a = p_pool_here ∨ a = p1) H25 F H' p1 (.lst vs1) ∧ Row τ0ₓ K F vs1 t38.2) ?_ ?_
   ·
    have S40 : Sx (fun a => a = p_pool_here ∨ a = p1) _ _ _ _ := Sx.refl S29.sub (by
      rintro a (rfl | rfl)
      ·
       rw [w32.at_]; exact (fun h => nomatch h)
      ·
       rw [w33.at_]; exact (fun h => nomatch h))
    have w41 : Ow (fun a => a = p_pool_here ∨ a = p1) H25 _ _ _ _ := ⟨w32.fr, w32.at_, .inr (Or.inl rfl)⟩
    have w42 : Ow (fun a => a = p_pool_here ∨ a = p1) H25 _ _ _ _ := ⟨w33.fr, w33.at_, .inr (Or.inr (rfl))⟩
    obtain ⟨t43, e44, e39⟩ := bd_some e39
    refine rd_ifS <| rd_test <| rd_op <| rd_call <| rd_cons <| rd_v rfl <| rd_cons <| rd_c <| rd_nil ?_
    refine ⟨F28, _, _, _, t43, rfl, S40.sub, w41.arg, e44, fun v48 F45 H46 c47 w50 f49 => ?_⟩
    have S51 := S40.call1 c47 w41
    obtain ⟨f_trees, f26⟩ := up2 f_trees f26 c47
    have r34 := Row.mono c47.le r34
    have w42 := w42.call c47 (by intro z; exact (Ne.symm ne7) z)
    have w52 := w41.back w50
    cases (show v48 = (V.int (t43.1)) from f49)
    refine rd_c <| rd_I0 <| rd_b ?_
    refine if_b e39 (fun b53 e39 => ?_) (fun b53 e39 => ?_)
    ·
     obtain ⟨t54, e55, e39⟩ := bd_some e39
     refine rd_drop <| rd_bm <| rd_v rfl <| rd_ty w42.ty <| rd_cons <| rd_call <| rd_cons <| rd_v rfl <| rd_cons <| rd_op <| rd_cb <| rd_cons <| rd_v rfl <| rd_nil ?_
     refine rd_lenQ (w42.l r34).r.q ?_
     refine rd_c <| rd_I0 <| rd_nil ?_
     refine ⟨F45, _, _, _, t54, rfl, S51.sub, w52.arg, e55, fun v59 F56 H57 c58 w61 f60 => ?_⟩
     have S62 := S51.call1 c58 w52
     obtain ⟨f_trees, f26⟩ := up2 f_trees f26 c58
     have r34 := Row.mono c58.le r34
     have w42 := w42.call c58 (by intro z; exact (Ne.symm ne7) z)
     have w63 := w52.back w61
     cases (show v59 = (V.int (t54.1)) from f60)
     obtain ⟨g64, e39⟩ := gd_some e39
     refine rd_cons <| rd_v rfl <| rd_nil ?_
     refine rd_insert S62 w42 r34 (show τ0ₓ.r K F56 _ x21 from f26) g64 (fun H65 us66 c67 w68 r69 => ?_)
     have S70 := S62.call1 c67 w42
     obtain ⟨f_trees, f26⟩ := up2 f_trees f26 c67
     have w63 := w63.call c67 (by intro z; exact ne7 z)
     have r69 := Row.mono c67.le r69
     cases e39
     exact ⟨F56, _, rfl, S70, w63, w68, r69⟩
    ·
     cases e39
     refine rd_next ?_
     exact ⟨F45, _, rfl, S51, w52, w42, r34⟩
   ·
    rintro σ72 H71 ⟨F73, v75, rfl, S74, w76, w77, r78⟩
    have S79 := S29.call S74 (by
      rintro a (rfl | rfl)
      ·
       exact w32.mine.symm
      ·
       exact w33.mine.symm)
    obtain ⟨f_trees, f26⟩ := up2 f_trees f26 S74
    have w80 : Ow (fun a => a = p_pool_here ∨ a = p1) H2 _ _ _ _ := ⟨w76.fr, w76.at_, w32.mine⟩
    have w81 : Ow (fun a => a = p_pool_here ∨ a = p1) H2 _ _ _ _ := ⟨w77.fr, w77.at_, w33.mine⟩
    obtain ⟨t82, e83, hm37⟩ := bd_some hm37
    refine rd_ifS <| rd_and <| rd_test <| rd_op <| rd_call <| rd_cons <| rd_v rfl <| rd_cons <| rd_c <| rd_nil ?_
    refine ⟨F73, _, _, _, t82, rfl, S79.sub, w80.arg, e83, fun v87 F84 H85 c86 w89 f88 => ?_⟩
    have S90 := S79.call1 c86 w80
    obtain ⟨f_trees, f26⟩ := up2 f_trees f26 c86
    have r78 := Row.mono c86.le r78
    have w81 := w81.call c86 (by intro z; exact (Ne.symm ne7) z)
    have w91 := w80.back w89
    cases (show v87 = (V.int (t82.1)) from f88)
    refine rd_c <| rd_I0 <| rd_b ?_
    refine and_p (by intro _ Q' q; refine rd_test ?_; refine rd_op ?_; refine rd_cb ?_; refine rd_cons ?_; refine rd_v rfl ?_; refine rd_nil ?_; refine rd_lenQ (w81.l r78).r.q ?_; refine rd_c ?_; refine rd_I0 ?_; refine rd_b ?_; exact q) ?_
    refine if_b hm37 (fun b92 hm37 => ?_) (fun b92 hm37 => ?_)
    ·
     obtain ⟨g93, hm37⟩ := gd_some hm37
     refine rd_drop <| rd_bm <| rd_v rfl <| rd_ty w81.ty <| rd_cons <| rd_v rfl <| rd_nil ?_
     refine ap S90 w81 r78 g93 (fun H94 c95 w96 => ?_)
     have r97 := r78.snoc (show τ0ₓ.r K F84 _ x21 from f26)
     have S98 := S90.call1 c95 w81
     obtain ⟨f_trees, f26⟩ := up2 f_trees f26 c95
     have w91 := w91.call c95 (by intro z; exact ne7 z)
     have r97 := Row.mono c95.le r97
     cases hm37
     exact ⟨F84, _, _, rfl, S98, w91, w96, r97⟩
    ·
     cases hm37
     refine rd_next ?_
     exact ⟨F84, _, _, rfl, S90, w91, w81, r78⟩
  ·
   rintro σ99 H100 ⟨F101, o103, v104, rfl, S102, w105, w106, r107⟩
   have S108 := S9.call S102 (by
     rintro a (rfl | rfl)
     ·
      exact w_pool_here.mine.symm
     ·
      exact w5.mine.symm)
   have f_trees := f_trees.up S102
   have w109 : Ow (fun a => a = p_pool_here) H0 _ _ _ _ := ⟨w105.fr, w105.at_, w_pool_here.mine⟩
   have w110 : Ow (fun a => a = p_pool_here) H0 _ _ _ _ := ⟨w106.fr, w106.at_, w5.mine⟩
   obtain ⟨t111, e112, hm⟩ := bd_some hm
   refine rd_cut (fun σ' H' => ∃ (F : Hp) (o3 : Option V) (vs1 : List V), σ' = [some (V.ref p_pool_here), some v_trees, some (V.ref p1), o3] ∧ Sx (fun a => a = p_pool_here ∨ a = p1) F101 H100 F H' ∧ Ow (fun a => a = p_pool_here ∨ a = p1) H100 F H' p_pool_here (.lst [V.int t111.1.1, V.int t111.1.2]) ∧ Ow (fun a => a = p_pool_here ∨ a = p1) H100 F H' p1 (.lst vs1) ∧ Row τ0ₓ K F vs1 t111.2) ?_ ?_
   ·
    have S113 : Sx (fun a => a = p_pool_here ∨ a = p1) _ _ _ _ := Sx.refl S108.sub (by
      rintro a (rfl | rfl)
      ·
       rw [w109.at_]; exact (fun h => nomatch h)
      ·
       rw [w110.at_]; exact (fun h => nomatch h))
    have w114 : Ow (fun a => a = p_pool_here ∨ a = p1) H100 _ _ _ _ := ⟨w109.fr, w109.at_, .inr (Or.inl rfl)⟩
    have w115 : Ow (fun a => a = p_pool_here ∨ a = p1) H100 _ _ _ _ := ⟨w110.fr, w110.at_, .inr (Or.inr (rfl))⟩
    obtain ⟨t116, e117, e112⟩ := bd_some e112
    refine rd_ifS <| rd_and <| rd_test <| rd_op <| rd_call <| rd_cons <| rd_v rfl <| rd_cons <| rd_c <| rd_nil ?_
    refine ⟨F101, _, _, _, t116, rfl, S113.sub, w114.arg, e117, fun v121 F118 H119 c120 w123 f122 => ?_⟩
    have S124 := S113.call1 c120 w114
    have f_trees := f_trees.up c120
    have r107 := Row.mono c120.le r107
    have w115 := w115.call c120 (by intro z; exact (Ne.symm ne7) z)
    have w125 := w114.back w123
    cases (show v121 = (V.int (t116.1)) from f122)
    refine rd_c <| rd_I0 <| rd_b ?_
    refine and_p (by intro _ Q' q; refine rd_test ?_; refine rd_op ?_; refine rd_cb ?_; refine rd_cons ?_; refine rd_v rfl ?_; refine rd_nil ?_; refine rd_lenQ (w115.l r107).r.q ?_; refine rd_c ?_; refine rd_I0 ?_; refine rd_b ?_; exact q) ?_
    refine if_b e112 (fun b126 e112 => ?_) (fun b126 e112 => ?_)
    ·
     obtain ⟨t127, e128, e112⟩ := bd_some e112
     refine rd_drop <| rd_bm <| rd_v rfl <| rd_ty w115.ty <| rd_cons <| rd_call <| rd_cons <| rd_v rfl <| rd_nil ?_
     refine ⟨F118, _, _, t127, rfl, S124.sub, w125.arg, e128, fun v132 F129 H130 c131 w134 f133 => ?_⟩
     have S135 := S124.call1 c131 w125
     have f_trees := f_trees.up c131
     have r107 := Row.mono c131.le r107
     have w115 := w115.call c131 (by intro z; exact (Ne.symm ne7) z)
     have w136 := w125.back w134
     obtain ⟨g137, e112⟩ := gd_some e112
     refine rd_nil ?_
     refine ap S135 w115 r107 g137 (fun H138 c139 w140 => ?_)
     have r141 := r107.snoc (show τ0ₓ.r K F129 _ t127.1 from f133)
     have S142 := S135.call1 c139 w115
     have f_trees := f_trees.up c139
     have w136 := w136.call c139 (by intro z; exact ne7 z)
     have r141 := Row.mono c139.le r141
     cases e112
     exact ⟨F129, _, _, rfl, S142, w136, w140, r141⟩
    ·
     cases e112
     refine rd_next ?_
     exact ⟨F118, _, _, rfl, S124, w125, w115, r107⟩
   ·
    rintro σ144 H143 ⟨F145, o147, v148, rfl, S146, w149, w150, r151⟩
    have S152 := S108.call S146 (by
      rintro a (rfl | rfl)
      ·
       exact w109.mine.symm
      ·
       exact w110.mine.symm)
    have f_trees := f_trees.up S146
    have w153 : Ow (fun a => a = p_pool_here) H0 _ _ _ _ := ⟨w149.fr, w149.at_, w109.mine⟩
    have w154 : Ow (fun a => a = p_pool_here) H0 _ _ _ _ := ⟨w150.fr, w150.at_, w110.mine⟩
    refine rd_ret ?_
    refine rd_sl ?_
    refine rd_v rfl ?_
    refine rd_np ?_
    refine rd_pt ?_
    refine rd_c ?_
    refine rd_i ?_
    refine rd_slL (w154.l r151).r ?_
    refine alL' S152 (fun v155 F156 H157 c158 f159 => ?_)
    have S160 := S152.call0 c158
    have f_trees := f_trees.up c158
    have r151 := Row.mono c158.le r151
    obtain ⟨w153, w154⟩ := wup2 w153 w154 c158
    cases hm
    exact hQ _ _ _ S160 w153 f159
def sp_law_other (K : PySem.W.Frag) : Sp := fun vs H Q _ => ∃ (F : Hp) (p_pool_here : Addr) (a_pool_here : Int × Int) (v_rule_here : V) (a_rule_here : τ1ₓ) (r : (τ1ₓ × (Int × Int))), vs = [.ref p_pool_here, v_rule_here] ∧ Same F H ∧ Ow (fun a => a = p_pool_here) H F H p_pool_here (.lst [.int a_pool_here.1, .int a_pool_here.2]) ∧ (qLr τ2ₓ).r K F v_rule_here a_rule_here ∧ m_law_other a_pool_here a_rule_here = some r ∧ ∀ v F' H', Sx (fun a => a = p_pool_here) F H F' H' → Ow (fun a => a = p_pool_here) H F' H' p_pool_here (.lst [.int r.2.1, .int r.2.2]) → (qLr τ2ₓ).r K F' v r.1 → Q v H'
theorem sc_law_other : FnScope ["_law_pool_here", "_law_rule_here", "_law_other_here", "_law_k"] ["_law_pool_here", "_law_rule_here"] (defScope s_law_other) := ⟨rfl, rfl, rfl, by decide +kernel, rfl, by decide +kernel, by decide +kernel⟩
theorem bn_law_other (T : Tx P K mg) : Binds K (fdOf K ("_law_other", none)) ["_law_pool_here", "_law_rule_here"] [] := FunD.bindsN T.F_law_other fun _ _ _ _ _ _ us hl => match us, hl with | [_, _], _ => rfl
theorem ok_law_other (T : Tx P K mg) : FnOk P w K mg base CX0 6 (He.ga K "_law_other") (fdOf K ("_law_other", none)) ["_law_pool_here", "_law_rule_here"] (sp_law_other K) := by
 refine FunD.ok T.F_law_other sc_law_other (fun vs H0 Q E h => ?_) (fun cdv A outer s H0 vs Q E hr h => ?_)
 ·
  obtain ⟨_, _, _, _, _, _, rfl, _⟩ := h
  rfl
 ·
  obtain ⟨F0, p_pool_here, a_pool_here, v_rule_here, a_rule_here, r, rfl, hE, w_pool_here, f_rule_here, hm, hQ⟩ := h
  refine ⟨_, PSs.nox ((pss_cons (ps_set (i := 2) sc_law_other.nd rfl (dk rfl) (pe_op op_cat (pe_lst (pa_cons (pe_call (ok_law_mixed T) (hr.mono (by decide)) (by rfl) T.g_law_mixed T.F_law_mixed.kp (bn_law_mixed T) .nil pass0 (pa_cons (pv 0) (pa_cons (pe_ix (r := rIxL K) ix_list (pv 1) pe_int (fun _ _ => rfl)) pa_nil))) (pa_cons (pe_call (ok_law_mixed T) (hr.mono (by decide)) (by rfl) T.g_law_mixed T.F_law_mixed.kp (bn_law_mixed T) .nil pass0 (pa_cons (pv 0) (pa_cons (pe_ix (r := rIxL K) ix_list (pv 1) pe_int (fun _ _ => rfl)) pa_nil))) pa_nil))) (pe_slice (r := rSlL K) sl_list (pv 1) (po_some pe_int) po_none))) (pss_cons (ps_if (pt_cmpR op_eqI (pe_call (ok_law_take T) (hr.mono (by decide)) (by rfl) T.g_law_take T.F_law_take.kp (bn_law_take T) .nil pass0 (pa_cons (pv 0) (pa_cons pe_int pa_nil))) pe_int (nomark _)) (pss_one (ps_set (i := 2) sc_law_other.nd rfl (dk rfl) (pe_op op_cat (pe_lst (pa_cons (pe_revL (pe_callTy (r := rListQ K) cr_listQ (by rfl) T.n_list (by decide +kernel) (pa_cons (pe_ix (r := rIxL K) ix_list (pv 1) pe_int (fun _ _ => rfl)) pa_nil))) (pa_cons (pe_callTy (r := rListQ K) cr_listQ (by rfl) T.n_list (by decide +kernel) (pa_cons (pe_ix (r := rIxL K) ix_list (pv 1) pe_int (fun _ _ => rfl)) pa_nil)) pa_nil))) (pe_slice (r := rSlL K) sl_list (pv 1) (po_some pe_int) po_none)))) pss_nil) (pss_cons (ps_if (pt_cmpR op_eqI (pe_call (ok_law_take T) (hr.mono (by decide)) (by rfl) T.g_law_take T.F_law_take.kp (bn_law_take T) .nil pass0 (pa_cons (pv 0) (pa_cons pe_int pa_nil))) pe_int (nomark _)) (pss_cons (ps_set (i := 3) sc_law_other.nd rfl (dk rfl) (pe_op op_add pe_int (pe_call (ok_law_take T) (hr.mono (by decide)) (by rfl) T.g_law_take T.F_law_take.kp (bn_law_take T) .nil pass0 (pa_cons (pv 0) (pa_cons pe_int pa_nil))))) (pss_one (ps_asg (pe_ix (r := rIxL K) ix_list (pe_call (ok_law_rule T) (hr.mono (by decide)) (by rfl) T.g_law_rule T.F_law_rule.kp (bn_law_rule T) .nil pass0 (pa_cons (pv 0) pa_nil)) (pv 3) (fun _ _ => rfl)) (pg_sub (pv 2) (pv 3) set_list)))) pss_nil) (pss_one (ps_ret (pv 2))))))), ?_⟩
  have S : Sx (fun a => a = p_pool_here) F0 H0 F0 H0 := Sx.refl hE (live1 w_pool_here)
  unfold m_law_other at hm
  refine rd_seq <| rd_asg <| rd_op <| rd_lst <| rd_cons <| rd_call <| rd_cons <| rd_v rfl <| rd_cons <| rd_op <| rd_v rfl <| rd_c ?_
  refine rd_xLr (i := 0) S f_rule_here ra0 (fun _ _ _ _ r => by obtain ⟨u0, s_u0, rfl, _, u1, s_u1, rfl, _, u2, s_u2, rfl, _, u3, s_u3, rfl, _, u4, s_u4, rfl, _, u5, rfl, _⟩ := r; exact Nat.le_of_ble_eq_true rfl) (fun u1 f2 => ?_)
  have f2 : (qL τ0ₓ).r K F0 u1 (a_rule_here).1 := f2
  obtain ⟨t3, e4, hm⟩ := bd_some hm
  refine rd_nil ?_
  refine ⟨F0, _, _, _, _, t3, rfl, S.sub, w_pool_here.arg, f2, e4, fun v8 F5 H6 c7 w10 f9 => ?_⟩
  have S11 := S.call1 c7 w_pool_here
  have f_rule_here := f_rule_here.up c7
  have w12 := w_pool_here.back w10
  refine rd_cons <| rd_call <| rd_cons <| rd_v rfl <| rd_cons <| rd_op <| rd_v rfl <| rd_c ?_
  refine rd_xLr (i := 1) S11 f_rule_here (raS ra0) (fun _ _ _ _ r => by obtain ⟨u0, s_u0, rfl, _, u1, s_u1, rfl, _, u2, s_u2, rfl, _, u3, s_u3, rfl, _, u4, s_u4, rfl, _, u5, rfl, _⟩ := r; exact Nat.le_of_ble_eq_true rfl) (fun u13 f14 => ?_)
  have f14 : (qL τ0ₓ).r K F5 u13 (a_rule_here).2.1 := f14
  obtain ⟨t15, e16, hm⟩ := bd_some hm
  refine rd_nil ?_
  refine ⟨F5, _, _, _, _, t15, rfl, S11.sub, w12.arg, f14, e16, fun v20 F17 H18 c19 w22 f21 => ?_⟩
  have S23 := S11.call1 c19 w12
  obtain ⟨f_rule_here, f9⟩ := up2 f_rule_here f9 c19
  have w24 := w12.back w22
  refine rd_nil <| rd_lK rfl ?_
  refine alLr (K := K) (B := (fc (qL τ0ₓ) (f1 (qL τ0ₓ)))) (a := (t3.1, t15.1)) S23 ⟨_, _, rfl, f9, _, rfl, f21⟩ (fun v25 F26 H27 c28 f29 => ?_)
  have S30 := S23.call0 c28
  have f_rule_here := f_rule_here.up c28
  have w24 := w24.call0 c28
  refine rd_sl ?_
  refine rd_v rfl ?_
  refine rd_pt ?_
  refine rd_c ?_
  refine rd_i ?_
  refine rd_np ?_
  refine rd_slR (C := (fc (qO qI) (fc qB (fc (qO qI) (f1 qB))))) (b := (a_rule_here.2.2.1, a_rule_here.2.2.2.1, a_rule_here.2.2.2.2.1, a_rule_here.2.2.2.2.2)) S30 f_rule_here (by rintro _ ⟨u0, _, rfl, h0, ⟨u1, _, rfl, h1, ⟨u2, _, rfl, h2, ⟨u3, _, rfl, h3, ⟨u4, _, rfl, h4, ⟨u5, rfl, h5⟩⟩⟩⟩⟩⟩; exact ⟨_, _, rfl, h2, ⟨_, _, rfl, h3, ⟨_, _, rfl, h4, ⟨_, rfl, h5⟩⟩⟩⟩) (fun v31 F32 H33 c34 f35 => ?_)
  have S36 := S30.call0 c34
  obtain ⟨f_rule_here, f29⟩ := up2 f_rule_here f29 c34
  have w24 := w24.call0 c34
  obtain ⟨p41, _, e42, q43, ⟨u37, _, rfl, h38, ⟨u39, rfl, h40⟩⟩⟩ := id f29
  obtain ⟨p52, _, e53, q54, ⟨u44, _, rfl, h45, ⟨_, _, rfl, rfl, ⟨u48, _, rfl, h49, ⟨_, rfl, rfl⟩⟩⟩⟩⟩ := id f35
  refine rd_catRO (zs := [u37, u39, u44, (V.bl ((a_rule_here.2.2.1, a_rule_here.2.2.2.1, a_rule_here.2.2.2.2.1, a_rule_here.2.2.2.2.2).2.1)), u48, (V.bl ((a_rule_here.2.2.1, a_rule_here.2.2.2.1, a_rule_here.2.2.2.2.1, a_rule_here.2.2.2.2.2).2.2.2))]) S36 e42 q43 e53 q54 rfl rfl ?_
  refine al S36 (fun p55 H56 np57 c58 w59 => ?_)
  have ne60 : p_pool_here ≠ p55 := w24.ne np57
  have z61 := S36.free0 np57
  have S62 := S36.call0 c58
  obtain ⟨f_rule_here, h38, h40, h45, h49⟩ := up5 f_rule_here h38 h40 h45 h49 c58
  have w24 := w24.call0 c58
  obtain ⟨t63, e64, hm⟩ := bd_some hm
  refine rd_gn <| rd_seq <| rd_ifS <| rd_test <| rd_op <| rd_call <| rd_cons <| rd_v rfl <| rd_cons <| rd_c <| rd_nil ?_
  refine ⟨F32, _, _, _, t63, rfl, S62.sub, w24.arg, e64, fun v68 F65 H66 c67 w70 f69 => ?_⟩
  have S71 := S62.call1 c67 w24
  obtain ⟨f_rule_here, h38, h40, h45, h49⟩ := up5 f_rule_here h38 h40 h45 h49 c67
  have w59 := w59.call c67 (by intro z; exact (Ne.symm ne60) z)
  have w72 := w24.back w70
  cases (show v68 = (V.int (t63.1)) from f69)
  refine rd_c <| rd_I0 <| rd_b ?_
  refine if_b hm (fun b73 hm => ?_) (fun b73 hm => ?_)
  ·
   refine rd_asg <| rd_op <| rd_lst <| rd_cons ?_
   refine rd_revL τ0ₓ ?_
   refine rd_cb <| rd_cons <| rd_op <| rd_v rfl <| rd_c ?_
   refine rd_xLr (i := 0) S71 f_rule_here ra0 (fun _ _ _ _ r => by obtain ⟨u0, s_u0, rfl, _, u1, s_u1, rfl, _, u2, s_u2, rfl, _, u3, s_u3, rfl, _, u4, s_u4, rfl, _, u5, rfl, _⟩ := r; exact Nat.le_of_ble_eq_true rfl) (fun u74 f75 => ?_)
   have f75 : (qL τ0ₓ).r K F65 u74 (a_rule_here).1 := f75
   refine rd_nil ?_
   refine rd_listQ (S71.l f75).r.q ?_
   refine alL' S71 (fun v76 F77 H78 c79 f80 => ?_)
   have S81 := S71.call0 c79
   obtain ⟨f_rule_here, h38, h40, h45, h49⟩ := up5 f_rule_here h38 h40 h45 h49 c79
   obtain ⟨w72, w59⟩ := wup2 w72 w59 c79
   refine rv_at (S81.l f80).r ?_
   refine alL' S81 (fun v82 F83 H84 c85 f86 => ?_)
   have S87 := S81.call0 c85
   obtain ⟨f_rule_here, h38, h40, h45, h49⟩ := up5 f_rule_here h38 h40 h45 h49 c85
   obtain ⟨w72, w59⟩ := wup2 w72 w59 c85
   refine rd_cons <| rd_cb <| rd_cons <| rd_op <| rd_v rfl <| rd_c ?_
   refine rd_xLr (i := 1) S87 f_rule_here (raS ra0) (fun _ _ _ _ r => by obtain ⟨u0, s_u0, rfl, _, u1, s_u1, rfl, _, u2, s_u2, rfl, _, u3, s_u3, rfl, _, u4, s_u4, rfl, _, u5, rfl, _⟩ := r; exact Nat.le_of_ble_eq_true rfl) (fun u88 f89 => ?_)
   have f89 : (qL τ0ₓ).r K F83 u88 (a_rule_here).2.1 := f89
   refine rd_nil ?_
   refine rd_listQ (S87.l f89).r.q ?_
   refine alL' S87 (fun v90 F91 H92 c93 f94 => ?_)
   have S95 := S87.call0 c93
   obtain ⟨f_rule_here, f86, h38, h40, h45, h49⟩ := up6 f_rule_here f86 h38 h40 h45 h49 c93
   obtain ⟨w72, w59⟩ := wup2 w72 w59 c93
   refine rd_nil <| rd_lK rfl ?_
   refine alLr (K := K) (B := (fc (qL τ0ₓ) (f1 (qL τ0ₓ)))) (a := (((a_rule_here).1).reverse, (a_rule_here).2.1)) S95 ⟨_, _, rfl, f86, _, rfl, f94⟩ (fun v96 F97 H98 c99 f100 => ?_)
   have S101 := S95.call0 c99
   obtain ⟨f_rule_here, h38, h40, h45, h49⟩ := up5 f_rule_here h38 h40 h45 h49 c99
   obtain ⟨w72, w59⟩ := wup2 w72 w59 c99
   refine rd_sl ?_
   refine rd_v rfl ?_
   refine rd_pt ?_
   refine rd_c ?_
   refine rd_i ?_
   refine rd_np ?_
   refine rd_slR (C := (fc (qO qI) (fc qB (fc (qO qI) (f1 qB))))) (b := (a_rule_here.2.2.1, a_rule_here.2.2.2.1, a_rule_here.2.2.2.2.1, a_rule_here.2.2.2.2.2)) S101 f_rule_here (by rintro _ ⟨u0, _, rfl, h0, ⟨u1, _, rfl, h1, ⟨u2, _, rfl, h2, ⟨u3, _, rfl, h3, ⟨u4, _, rfl, h4, ⟨u5, rfl, h5⟩⟩⟩⟩⟩⟩; exact ⟨_, _, rfl, h2, ⟨_, _, rfl, h3, ⟨_, _, rfl, h4, ⟨_, rfl, h5⟩⟩⟩⟩) (fun v102 F103 H104 c105 f106 => ?_)
   have S107 := S101.call0 c105
   obtain ⟨f_rule_here, f100, h38, h40, h45, h49⟩ := up6 f_rule_here f100 h38 h40 h45 h49 c105
   obtain ⟨w72, w59⟩ := wup2 w72 w59 c105
   obtain ⟨p112, _, e113, q114, ⟨u108, _, rfl, h109, ⟨u110, rfl, h111⟩⟩⟩ := id f100
   obtain ⟨p123, _, e124, q125, ⟨u115, _, rfl, h116, ⟨_, _, rfl, rfl, ⟨u119, _, rfl, h120, ⟨_, rfl, rfl⟩⟩⟩⟩⟩ := id f106
   refine rd_catRO (zs := [u108, u110, u115, (V.bl ((a_rule_here.2.2.1, a_rule_here.2.2.2.1, a_rule_here.2.2.2.2.1, a_rule_here.2.2.2.2.2).2.1)), u119, (V.bl ((a_rule_here.2.2.1, a_rule_here.2.2.2.1, a_rule_here.2.2.2.2.1, a_rule_here.2.2.2.2.2).2.2.2))]) S107 e113 q114 e124 q125 rfl rfl ?_
   refine al S107 (fun p126 H127 np128 c129 w130 => ?_)
   have ne131 : p_pool_here ≠ p126 := w72.ne np128
   have ne132 : p55 ≠ p126 := w59.ne np128
   have z133 := S107.free0 np128
   have S134 := S107.call0 c129
   obtain ⟨f_rule_here, h109, h111, h116, h120, h38⟩ := up6 f_rule_here h109 h111 h116 h120 h38 c129
   obtain ⟨h40, h45, h49⟩ := up3 h40 h45 h49 c129
   obtain ⟨w72, w59⟩ := wup2 w72 w59 c129
   obtain ⟨t135, e136, hm⟩ := bd_some hm
   refine rd_gn <| rd_seq <| rd_ifS <| rd_test <| rd_op <| rd_call <| rd_cons <| rd_v rfl <| rd_cons <| rd_c <| rd_nil ?_
   refine ⟨F103, _, _, _, t135, rfl, S134.sub, w72.arg, e136, fun v140 F137 H138 c139 w142 f141 => ?_⟩
   have S143 := S134.call1 c139 w72
   obtain ⟨f_rule_here, h38, h40, h45, h49, h109⟩ := up6 f_rule_here h38 h40 h45 h49 h109 c139
   obtain ⟨h111, h116, h120⟩ := up3 h111 h116 h120 c139
   have w59 := w59.call c139 (by intro z; exact (Ne.symm ne60) z)
   have w130 := w130.call c139 (by intro z; exact (Ne.symm ne131) z)
   have w144 := w72.back w142
   cases (show v140 = (V.int (t135.1)) from f141)
   refine rd_c <| rd_I0 <| rd_b ?_
   refine if_b hm (fun b145 hm => ?_) (fun b145 hm => ?_)
   ·
    obtain ⟨t146, e147, hm⟩ := bd_some hm
    refine rd_seq <| rd_asg <| rd_op <| rd_c <| rd_call <| rd_cons <| rd_v rfl <| rd_cons <| rd_c <| rd_nil ?_
    refine ⟨F137, _, _, _, t146, rfl, S143.sub, w144.arg, e147, fun v151 F148 H149 c150 w153 f152 => ?_⟩
    have S154 := S143.call1 c150 w144
    obtain ⟨f_rule_here, h38, h40, h45, h49, h109⟩ := up6 f_rule_here h38 h40 h45 h49 h109 c150
    obtain ⟨h111, h116, h120⟩ := up3 h111 h116 h120 c150
    have w59 := w59.call c150 (by intro z; exact (Ne.symm ne60) z)
    have w130 := w130.call c150 (by intro z; exact (Ne.symm ne131) z)
    have w155 := w144.back w153
    cases (show v151 = (V.int (t146.1)) from f152)
    refine rd_I0 <| rd_gn <| rd_asg ?_
    rcases if_or hm with ⟨hi156, hm157⟩ | ⟨_, hm157⟩
    ·
     obtain ⟨t158, e159, hm157⟩ := bd_some hm157
     refine rd_op <| rd_call <| rd_cons <| rd_v rfl <| rd_nil ?_
     refine ⟨F148, _, _, t158, rfl, S154.sub, w155.arg, e159, fun v163 F160 H161 c162 w165 f164 => ?_⟩
     have S166 := S154.call1 c162 w155
     obtain ⟨f_rule_here, h38, h40, h45, h49, h109⟩ := up6 f_rule_here h38 h40 h45 h49 h109 c162
     obtain ⟨h111, h116, h120⟩ := up3 h111 h116 h120 c162
     have w59 := w59.call c162 (by intro z; exact (Ne.symm ne60) z)
     have w130 := w130.call c162 (by intro z; exact (Ne.symm ne131) z)
     have w167 := w155.back w165
     refine rd_v rfl ?_
     refine rd_ixAt (j := 2) (of_decide_eq_true hi156) ?_
     refine rd_xLr (i := 2) S166 f164 (raS (raS ra0)) (fun _ _ _ _ r => by obtain ⟨u0, s_u0, rfl, _, u1, s_u1, rfl, _, u2, s_u2, rfl, _, u3, s_u3, rfl, _, u4, s_u4, rfl, _, u5, rfl, _⟩ := r; exact Nat.le_of_ble_eq_true rfl) (fun u168 f169 => ?_)
     have f169 : (qO qI).r K F160 u168 (t158.1).2.2.1 := f169
     refine rd_gsub <| rd_v rfl <| rd_v rfl ?_
     refine rd_setO S166 w130 (us' := [u108, u110, u168, (V.bl ((a_rule_here.2.2.1, a_rule_here.2.2.2.1, a_rule_here.2.2.2.2.1, a_rule_here.2.2.2.2.2).2.1)), u119, (V.bl ((a_rule_here.2.2.1, a_rule_here.2.2.2.1, a_rule_here.2.2.2.2.1, a_rule_here.2.2.2.2.2).2.2.2))]) (j := 2) (by rw [of_decide_eq_true hi156]; rfl) (by rfl) (fun H170 c171 w172 => ?_)
     have S173 := S166.call1 c171 w130
     obtain ⟨f_rule_here, h38, h40, h45, h49, h109⟩ := up6 f_rule_here h38 h40 h45 h49 h109 c171
     obtain ⟨h111, f169, h120⟩ := up3 h111 f169 h120 c171
     have w167 := w167.call c171 (by intro z; exact ne131 z)
     have w59 := w59.call c171 (by intro z; exact ne132 z)
     obtain ⟨F174, S175, le176, f177, eq178⟩ := fzRec (B := τ2ₓ) (a := ((((a_rule_here).1).reverse, (a_rule_here).2.1).1, (((a_rule_here).1).reverse, (a_rule_here).2.1).2, (t158.1).2.2.1, (a_rule_here.2.2.1, a_rule_here.2.2.2.1, a_rule_here.2.2.2.2.1, a_rule_here.2.2.2.2.2).2.1, (a_rule_here.2.2.1, a_rule_here.2.2.2.1, a_rule_here.2.2.2.2.1, a_rule_here.2.2.2.2.2).2.2.1, (a_rule_here.2.2.1, a_rule_here.2.2.2.1, a_rule_here.2.2.2.2.1, a_rule_here.2.2.2.2.2).2.2.2)) S173 w172 z133 ⟨_, _, rfl, h109, _, _, rfl, h111, _, _, rfl, f169, _, _, rfl, rfl, _, _, rfl, h120, _, rfl, rfl⟩
     have f_rule_here := (qLr τ2ₓ).mono le176 f_rule_here
     have h38 := (qL τ0ₓ).mono le176 h38
     have h40 := (qL τ0ₓ).mono le176 h40
     have h45 := (qO qI).mono le176 h45
     have h49 := (qO qI).mono le176 h49
     have h109 := (qL τ0ₓ).mono le176 h109
     have h111 := (qL τ0ₓ).mono le176 h111
     have f169 := (qO qI).mono le176 f169
     have h120 := (qO qI).mono le176 h120
     have w167 := w167.fzO ne131 eq178
     have w59 := w59.fzO ne132 eq178
     cases hm157
     refine rd_ret <| rd_v rfl ?_
     exact hQ _ _ _ S175 w167 f177
    rcases if_or hm157 with ⟨hi179, hm180⟩ | ⟨_, hm180⟩
    ·
     obtain ⟨t181, e182, hm180⟩ := bd_some hm180
     refine rd_op <| rd_call <| rd_cons <| rd_v rfl <| rd_nil ?_
     refine ⟨F148, _, _, t181, rfl, S154.sub, w155.arg, e182, fun v186 F183 H184 c185 w188 f187 => ?_⟩
     have S189 := S154.call1 c185 w155
     obtain ⟨f_rule_here, h38, h40, h45, h49, h109⟩ := up6 f_rule_here h38 h40 h45 h49 h109 c185
     obtain ⟨h111, h116, h120⟩ := up3 h111 h116 h120 c185
     have w59 := w59.call c185 (by intro z; exact (Ne.symm ne60) z)
     have w130 := w130.call c185 (by intro z; exact (Ne.symm ne131) z)
     have w190 := w155.back w188
     refine rd_v rfl ?_
     refine rd_ixAt (j := 3) (of_decide_eq_true hi179) ?_
     refine rd_xLr (i := 3) S189 f187 (raS (raS (raS ra0))) (fun _ _ _ _ r => by obtain ⟨u0, s_u0, rfl, _, u1, s_u1, rfl, _, u2, s_u2, rfl, _, u3, s_u3, rfl, _, u4, s_u4, rfl, _, u5, rfl, _⟩ := r; exact Nat.le_of_ble_eq_true rfl) (fun u191 f192 => ?_)
     cases (show u191 = (V.bl ((t181.1).2.2.2.1)) from f192)
     refine rd_gsub <| rd_v rfl <| rd_v rfl ?_
     refine rd_setO S189 w130 (us' := [u108, u110, u115, (V.bl ((t181.1).2.2.2.1)), u119, (V.bl ((a_rule_here.2.2.1, a_rule_here.2.2.2.1, a_rule_here.2.2.2.2.1, a_rule_here.2.2.2.2.2).2.2.2))]) (j := 3) (by rw [of_decide_eq_true hi179]; rfl) (by rfl) (fun H193 c194 w195 => ?_)
     have S196 := S189.call1 c194 w130
     obtain ⟨f_rule_here, h38, h40, h45, h49, h109⟩ := up6 f_rule_here h38 h40 h45 h49 h109 c194
     obtain ⟨h111, h116, h120⟩ := up3 h111 h116 h120 c194
     have w190 := w190.call c194 (by intro z; exact ne131 z)
     have w59 := w59.call c194 (by intro z; exact ne132 z)
     obtain ⟨F197, S198, le199, f200, eq201⟩ := fzRec (B := τ2ₓ) (a := ((((a_rule_here).1).reverse, (a_rule_here).2.1).1, (((a_rule_here).1).reverse, (a_rule_here).2.1).2, (a_rule_here.2.2.1, a_rule_here.2.2.2.1, a_rule_here.2.2.2.2.1, a_rule_here.2.2.2.2.2).1, (t181.1).2.2.2.1, (a_rule_here.2.2.1, a_rule_here.2.2.2.1, a_rule_here.2.2.2.2.1, a_rule_here.2.2.2.2.2).2.2.1, (a_rule_here.2.2.1, a_rule_here.2.2.2.1, a_rule_here.2.2.2.2.1, a_rule_here.2.2.2.2.2).2.2.2)) S196 w195 z133 ⟨_, _, rfl, h109, _, _, rfl, h111, _, _, rfl, h116, _, _, rfl, rfl, _, _, rfl, h120, _, rfl, rfl⟩
     have f_rule_here := (qLr τ2ₓ).mono le199 f_rule_here
     have h38 := (qL τ0ₓ).mono le199 h38
     have h40 := (qL τ0ₓ).mono le199 h40
     have h45 := (qO qI).mono le199 h45
     have h49 := (qO qI).mono le199 h49
     have h109 := (qL τ0ₓ).mono le199 h109
     have h111 := (qL τ0ₓ).mono le199 h111
     have h116 := (qO qI).mono le199 h116
     have h120 := (qO qI).mono le199 h120
     have w190 := w190.fzO ne131 eq201
     have w59 := w59.fzO ne132 eq201
     cases hm180
     refine rd_ret <| rd_v rfl ?_
     exact hQ _ _ _ S198 w190 f200
    rcases if_or hm180 with ⟨hi202, hm203⟩ | ⟨_, hm203⟩
    ·
     obtain ⟨t204, e205, hm203⟩ := bd_some hm203
     refine rd_op <| rd_call <| rd_cons <| rd_v rfl <| rd_nil ?_
     refine ⟨F148, _, _, t204, rfl, S154.sub, w155.arg, e205, fun v209 F206 H207 c208 w211 f210 => ?_⟩
     have S212 := S154.call1 c208 w155
     obtain ⟨f_rule_here, h38, h40, h45, h49, h109⟩ := up6 f_rule_here h38 h40 h45 h49 h109 c208
     obtain ⟨h111, h116, h120⟩ := up3 h111 h116 h120 c208
     have w59 := w59.call c208 (by intro z; exact (Ne.symm ne60) z)
     have w130 := w130.call c208 (by intro z; exact (Ne.symm ne131) z)
     have w213 := w155.back w211
     refine rd_v rfl ?_
     refine rd_ixAt (j := 4) (of_decide_eq_true hi202) ?_
     refine rd_xLr (i := 4) S212 f210 (raS (raS (raS (raS ra0)))) (fun _ _ _ _ r => by obtain ⟨u0, s_u0, rfl, _, u1, s_u1, rfl, _, u2, s_u2, rfl, _, u3, s_u3, rfl, _, u4, s_u4, rfl, _, u5, rfl, _⟩ := r; exact Nat.le_of_ble_eq_true rfl) (fun u214 f215 => ?_)
     have f215 : (qO qI).r K F206 u214 (t204.1).2.2.2.2.1 := f215
     refine rd_gsub <| rd_v rfl <| rd_v rfl ?_
     refine rd_setO S212 w130 (us' := [u108, u110, u115, (V.bl ((a_rule_here.2.2.1, a_rule_here.2.2.2.1, a_rule_here.2.2.2.2.1, a_rule_here.2.2.2.2.2).2.1)), u214, (V.bl ((a_rule_here.2.2.1, a_rule_here.2.2.2.1, a_rule_here.2.2.2.2.1, a_rule_here.2.2.2.2.2).2.2.2))]) (j := 4) (by rw [of_decide_eq_true hi202]; rfl) (by rfl) (fun H216 c217 w218 => ?_)
     have S219 := S212.call1 c217 w130
     obtain ⟨f_rule_here, h38, h40, h45, h49, h109⟩ := up6 f_rule_here h38 h40 h45 h49 h109 c217
     obtain ⟨h111, h116, f215⟩ := up3 h111 h116 f215 c217
     have w213 := w213.call c217 (by intro z; exact ne131 z)
     have w59 := w59.call c217 (by intro z; exact ne132 z)
     obtain ⟨F220, S221, le222, f223, eq224⟩ := fzRec (B := τ2ₓ) (a := ((((a_rule_here).1).reverse, (a_rule_here).2.1).1, (((a_rule_here).1).reverse, (a_rule_here).2.1).2, (a_rule_here.2.2.1, a_rule_here.2.2.2.1, a_rule_here.2.2.2.2.1, a_rule_here.2.2.2.2.2).1, (a_rule_here.2.2.1, a_rule_here.2.2.2.1, a_rule_here.2.2.2.2.1, a_rule_here.2.2.2.2.2).2.1, (t204.1).2.2.2.2.1, (a_rule_here.2.2.1, a_rule_here.2.2.2.1, a_rule_here.2.2.2.2.1, a_rule_here.2.2.2.2.2).2.2.2)) S219 w218 z133 ⟨_, _, rfl, h109, _, _, rfl, h111, _, _, rfl, h116, _, _, rfl, rfl, _, _, rfl, f215, _, rfl, rfl⟩
     have f_rule_here := (qLr τ2ₓ).mono le222 f_rule_here
     have h38 := (qL τ0ₓ).mono le222 h38
     have h40 := (qL τ0ₓ).mono le222 h40
     have h45 := (qO qI).mono le222 h45
     have h49 := (qO qI).mono le222 h49
     have h109 := (qL τ0ₓ).mono le222 h109
     have h111 := (qL τ0ₓ).mono le222 h111
     have h116 := (qO qI).mono le222 h116
     have f215 := (qO qI).mono le222 f215
     have w213 := w213.fzO ne131 eq224
     have w59 := w59.fzO ne132 eq224
     cases hm203
     refine rd_ret <| rd_v rfl ?_
     exact hQ _ _ _ S221 w213 f223
    rcases if_or hm203 with ⟨hi225, hm226⟩ | ⟨_, hm226⟩
    ·
     obtain ⟨t227, e228, hm226⟩ := bd_some hm226
     refine rd_op <| rd_call <| rd_cons <| rd_v rfl <| rd_nil ?_
     refine ⟨F148, _, _, t227, rfl, S154.sub, w155.arg, e228, fun v232 F229 H230 c231 w234 f233 => ?_⟩
     have S235 := S154.call1 c231 w155
     obtain ⟨f_rule_here, h38, h40, h45, h49, h109⟩ := up6 f_rule_here h38 h40 h45 h49 h109 c231
     obtain ⟨h111, h116, h120⟩ := up3 h111 h116 h120 c231
     have w59 := w59.call c231 (by intro z; exact (Ne.symm ne60) z)
     have w130 := w130.call c231 (by intro z; exact (Ne.symm ne131) z)
     have w236 := w155.back w234
     refine rd_v rfl ?_
     refine rd_ixAt (j := 5) (of_decide_eq_true hi225) ?_
     refine rd_xLr (i := 5) S235 f233 (raS (raS (raS (raS (raS ra1))))) (fun _ _ _ _ r => by obtain ⟨u0, s_u0, rfl, _, u1, s_u1, rfl, _, u2, s_u2, rfl, _, u3, s_u3, rfl, _, u4, s_u4, rfl, _, u5, rfl, _⟩ := r; exact Nat.le_of_ble_eq_true rfl) (fun u237 f238 => ?_)
     cases (show u237 = (V.bl ((t227.1).2.2.2.2.2)) from f238)
     refine rd_gsub <| rd_v rfl <| rd_v rfl ?_
     refine rd_setO S235 w130 (us' := [u108, u110, u115, (V.bl ((a_rule_here.2.2.1, a_rule_here.2.2.2.1, a_rule_here.2.2.2.2.1, a_rule_here.2.2.2.2.2).2.1)), u119, (V.bl ((t227.1).2.2.2.2.2))]) (j := 5) (by rw [of_decide_eq_true hi225]; rfl) (by rfl) (fun H239 c240 w241 => ?_)
     have S242 := S235.call1 c240 w130
     obtain ⟨f_rule_here, h38, h40, h45, h49, h109⟩ := up6 f_rule_here h38 h40 h45 h49 h109 c240
     obtain ⟨h111, h116, h120⟩ := up3 h111 h116 h120 c240
     have w236 := w236.call c240 (by intro z; exact ne131 z)
     have w59 := w59.call c240 (by intro z; exact ne132 z)
     obtain ⟨F243, S244, le245, f246, eq247⟩ := fzRec (B := τ2ₓ) (a := ((((a_rule_here).1).reverse, (a_rule_here).2.1).1, (((a_rule_here).1).reverse, (a_rule_here).2.1).2, (a_rule_here.2.2.1, a_rule_here.2.2.2.1, a_rule_here.2.2.2.2.1, a_rule_here.2.2.2.2.2).1, (a_rule_here.2.2.1, a_rule_here.2.2.2.1, a_rule_here.2.2.2.2.1, a_rule_here.2.2.2.2.2).2.1, (a_rule_here.2.2.1, a_rule_here.2.2.2.1, a_rule_here.2.2.2.2.1, a_rule_here.2.2.2.2.2).2.2.1, (t227.1).2.2.2.2.2)) S242 w241 z133 ⟨_, _, rfl, h109, _, _, rfl, h111, _, _, rfl, h116, _, _, rfl, rfl, _, _, rfl, h120, _, rfl, rfl⟩
     have f_rule_here := (qLr τ2ₓ).mono le245 f_rule_here
     have h38 := (qL τ0ₓ).mono le245 h38
     have h40 := (qL τ0ₓ).mono le245 h40
     have h45 := (qO qI).mono le245 h45
     have h49 := (qO qI).mono le245 h49
     have h109 := (qL τ0ₓ).mono le245 h109
     have h111 := (qL τ0ₓ).mono le245 h111
     have h116 := (qO qI).mono le245 h116
     have h120 := (qO qI).mono le245 h120
     have w236 := w236.fzO ne131 eq247
     have w59 := w59.fzO ne132 eq247
     cases hm226
     refine rd_ret <| rd_v rfl ?_
     exact hQ _ _ _ S244 w236 f246
    ·
     cases hm226
   ·
    obtain ⟨F248, S249, le250, f251, eq252⟩ := fzRec (B := τ2ₓ) (a := ((((a_rule_here).1).reverse, (a_rule_here).2.1).1, (((a_rule_here).1).reverse, (a_rule_here).2.1).2, (a_rule_here.2.2.1, a_rule_here.2.2.2.1, a_rule_here.2.2.2.2.1, a_rule_here.2.2.2.2.2).1, (a_rule_here.2.2.1, a_rule_here.2.2.2.1, a_rule_here.2.2.2.2.1, a_rule_here.2.2.2.2.2).2.1, (a_rule_here.2.2.1, a_rule_here.2.2.2.1, a_rule_here.2.2.2.2.1, a_rule_here.2.2.2.2.2).2.2.1, (a_rule_here.2.2.1, a_rule_here.2.2.2.1, a_rule_here.2.2.2.2.1, a_rule_here.2.2.2.2.2).2.2.2)) S143 w130 z133 ⟨_, _, rfl, h109, _, _, rfl, h111, _, _, rfl, h116, _, _, rfl, rfl, _, _, rfl, h120, _, rfl, rfl⟩
    have f_rule_here := (qLr τ2ₓ).mono le250 f_rule_here
    have h38 := (qL τ0ₓ).mono le250 h38
    have h40 := (qL τ0ₓ).mono le250 h40
    have h45 := (qO qI).mono le250 h45
    have h49 := (qO qI).mono le250 h49
    have h109 := (qL τ0ₓ).mono le250 h109
    have h111 := (qL τ0ₓ).mono le250 h111
    have h116 := (qO qI).mono le250 h116
    have h120 := (qO qI).mono le250 h120
    have w144 := w144.fzO ne131 eq252
    have w59 := w59.fzO ne132 eq252
    cases hm
    refine rd_next <| rd_ret <| rd_v rfl ?_
    exact hQ _ _ _ S249 w144 f251
  ·
   obtain ⟨t253, e254, hm⟩ := bd_some hm
   refine rd_next <| rd_seq <| rd_ifS <| rd_test <| rd_op <| rd_call <| rd_cons <| rd_v rfl <| rd_cons <| rd_c <| rd_nil ?_
   refine ⟨F65, _, _, _, t253, rfl, S71.sub, w72.arg, e254, fun v258 F255 H256 c257 w260 f259 => ?_⟩
   have S261 := S71.call1 c257 w72
   obtain ⟨f_rule_here, h38, h40, h45, h49⟩ := up5 f_rule_here h38 h40 h45 h49 c257
   have w59 := w59.call c257 (by intro z; exact (Ne.symm ne60) z)
   have w262 := w72.back w260
   cases (show v258 = (V.int (t253.1)) from f259)
   refine rd_c <| rd_I0 <| rd_b ?_
   refine if_b hm (fun b263 hm => ?_) (fun b263 hm => ?_)
   ·
    obtain ⟨t264, e265, hm⟩ := bd_some hm
    refine rd_seq <| rd_asg <| rd_op <| rd_c <| rd_call <| rd_cons <| rd_v rfl <| rd_cons <| rd_c <| rd_nil ?_
    refine ⟨F255, _, _, _, t264, rfl, S261.sub, w262.arg, e265, fun v269 F266 H267 c268 w271 f270 => ?_⟩
    have S272 := S261.call1 c268 w262
    obtain ⟨f_rule_here, h38, h40, h45, h49⟩ := up5 f_rule_here h38 h40 h45 h49 c268
    have w59 := w59.call c268 (by intro z; exact (Ne.symm ne60) z)
    have w273 := w262.back w271
    cases (show v269 = (V.int (t264.1)) from f270)
    refine rd_I0 <| rd_gn <| rd_asg ?_
    rcases if_or hm with ⟨hi274, hm275⟩ | ⟨_, hm275⟩
    ·
     obtain ⟨t276, e277, hm275⟩ := bd_some hm275
     refine rd_op <| rd_call <| rd_cons <| rd_v rfl <| rd_nil ?_
     refine ⟨F266, _, _, t276, rfl, S272.sub, w273.arg, e277, fun v281 F278 H279 c280 w283 f282 => ?_⟩
     have S284 := S272.call1 c280 w273
     obtain ⟨f_rule_here, h38, h40, h45, h49⟩ := up5 f_rule_here h38 h40 h45 h49 c280
     have w59 := w59.call c280 (by intro z; exact (Ne.symm ne60) z)
     have w285 := w273.back w283
     refine rd_v rfl ?_
     refine rd_ixAt (j := 2) (of_decide_eq_true hi274) ?_
     refine rd_xLr (i := 2) S284 f282 (raS (raS ra0)) (fun _ _ _ _ r => by obtain ⟨u0, s_u0, rfl, _, u1, s_u1, rfl, _, u2, s_u2, rfl, _, u3, s_u3, rfl, _, u4, s_u4, rfl, _, u5, rfl, _⟩ := r; exact Nat.le_of_ble_eq_true rfl) (fun u286 f287 => ?_)
     have f287 : (qO qI).r K F278 u286 (t276.1).2.2.1 := f287
     refine rd_gsub <| rd_v rfl <| rd_v rfl ?_
     refine rd_setO S284 w59 (us' := [u37, u39, u286, (V.bl ((a_rule_here.2.2.1, a_rule_here.2.2.2.1, a_rule_here.2.2.2.2.1, a_rule_here.2.2.2.2.2).2.1)), u48, (V.bl ((a_rule_here.2.2.1, a_rule_here.2.2.2.1, a_rule_here.2.2.2.2.1, a_rule_here.2.2.2.2.2).2.2.2))]) (j := 2) (by rw [of_decide_eq_true hi274]; rfl) (by rfl) (fun H288 c289 w290 => ?_)
     have S291 := S284.call1 c289 w59
     obtain ⟨f_rule_here, h38, h40, f287, h49⟩ := up5 f_rule_here h38 h40 f287 h49 c289
     have w285 := w285.call c289 (by intro z; exact ne60 z)
     obtain ⟨F292, S293, le294, f295, eq296⟩ := fzRec (B := τ2ₓ) (a := ((t3.1, t15.1).1, (t3.1, t15.1).2, (t276.1).2.2.1, (a_rule_here.2.2.1, a_rule_here.2.2.2.1, a_rule_here.2.2.2.2.1, a_rule_here.2.2.2.2.2).2.1, (a_rule_here.2.2.1, a_rule_here.2.2.2.1, a_rule_here.2.2.2.2.1, a_rule_here.2.2.2.2.2).2.2.1, (a_rule_here.2.2.1, a_rule_here.2.2.2.1, a_rule_here.2.2.2.2.1, a_rule_here.2.2.2.2.2).2.2.2)) S291 w290 z61 ⟨_, _, rfl, h38, _, _, rfl, h40, _, _, rfl, f287, _, _, rfl, rfl, _, _, rfl, h49, _, rfl, rfl⟩
     have f_rule_here := (qLr τ2ₓ).mono le294 f_rule_here
     have h38 := (qL τ0ₓ).mono le294 h38
     have h40 := (qL τ0ₓ).mono le294 h40
     have f287 := (qO qI).mono le294 f287
     have h49 := (qO qI).mono le294 h49
     have w285 := w285.fzO ne60 eq296
     cases hm275
     refine rd_ret <| rd_v rfl ?_
     exact hQ _ _ _ S293 w285 f295
    rcases if_or hm275 with ⟨hi297, hm298⟩ | ⟨_, hm298⟩
    ·
     obtain ⟨t299, e300, hm298⟩ := bd_some hm298
     refine rd_op <| rd_call <| rd_cons <| rd_v rfl <| rd_nil ?_
     refine ⟨F266, _, _, t299, rfl, S272.sub, w273.arg, e300, fun v304 F301 H302 c303 w306 f305 => ?_⟩
     have S307 := S272.call1 c303 w273
     obtain ⟨f_rule_here, h38, h40, h45, h49⟩ := up5 f_rule_here h38 h40 h45 h49 c303
     have w59 := w59.call c303 (by intro z; exact (Ne.symm ne60) z)
     have w308 := w273.back w306
     refine rd_v rfl ?_
     refine rd_ixAt (j := 3) (of_decide_eq_true hi297) ?_
     refine rd_xLr (i := 3) S307 f305 (raS (raS (raS ra0))) (fun _ _ _ _ r => by obtain ⟨u0, s_u0, rfl, _, u1, s_u1, rfl, _, u2, s_u2, rfl, _, u3, s_u3, rfl, _, u4, s_u4, rfl, _, u5, rfl, _⟩ := r; exact Nat.le_of_ble_eq_true rfl) (fun u309 f310 => ?_)
     cases (show u309 = (V.bl ((t299.1).2.2.2.1)) from f310)
     refine rd_gsub <| rd_v rfl <| rd_v rfl ?_
     refine rd_setO S307 w59 (us' := [u37, u39, u44, (V.bl ((t299.1).2.2.2.1)), u48, (V.bl ((a_rule_here.2.2.1, a_rule_here.2.2.2.1, a_rule_here.2.2.2.2.1, a_rule_here.2.2.2.2.2).2.2.2))]) (j := 3) (by rw [of_decide_eq_true hi297]; rfl) (by rfl) (fun H311 c312 w313 => ?_)
     have S314 := S307.call1 c312 w59
     obtain ⟨f_rule_here, h38, h40, h45, h49⟩ := up5 f_rule_here h38 h40 h45 h49 c312
     have w308 := w308.call c312 (by intro z; exact ne60 z)
     obtain ⟨F315, S316, le317, f318, eq319⟩ := fzRec (B := τ2ₓ) (a := ((t3.1, t15.1).1, (t3.1, t15.1).2, (a_rule_here.2.2.1, a_rule_here.2.2.2.1, a_rule_here.2.2.2.2.1, a_rule_here.2.2.2.2.2).1, (t299.1).2.2.2.1, (a_rule_here.2.2.1, a_rule_here.2.2.2.1, a_rule_here.2.2.2.2.1, a_rule_here.2.2.2.2.2).2.2.1, (a_rule_here.2.2.1, a_rule_here.2.2.2.1, a_rule_here.2.2.2.2.1, a_rule_here.2.2.2.2.2).2.2.2)) S314 w313 z61 ⟨_, _, rfl, h38, _, _, rfl, h40, _, _, rfl, h45, _, _, rfl, rfl, _, _, rfl, h49, _, rfl, rfl⟩
     have f_rule_here := (qLr τ2ₓ).mono le317 f_rule_here
     have h38 := (qL τ0ₓ).mono le317 h38
     have h40 := (qL τ0ₓ).mono le317 h40
     have h45 := (qO qI).mono le317 h45
     have h49 := (qO qI).mono le317 h49
     have w308 := w308.fzO ne60 eq319
     cases hm298
     refine rd_ret <| rd_v rfl ?_
     exact hQ _ _ _ S316 w308 f318
    rcases if_or hm298 with ⟨hi320, hm321⟩ | ⟨_, hm321⟩
    ·
     obtain ⟨t322, e323, hm321⟩ := bd_some hm321
     refine rd_op <| rd_call <| rd_cons <| rd_v rfl <| rd_nil ?_
     refine ⟨F266, _, _, t322, rfl, S272.sub, w273.arg, e323, fun v327 F324 H325 c326 w329 f328 => ?_⟩
     have S330 := S272.call1 c326 w273
     obtain ⟨f_rule_here, h38, h40, h45, h49⟩ := up5 f_rule_here h38 h40 h45 h49 c326
     have w59 := w59.call c326 (by intro z; exact (Ne.symm ne60) z)
     have w331 := w273.back w329
     refine rd_v rfl ?_
     refine rd_ixAt (j := 4) (of_decide_eq_true hi320) ?_
     refine rd_xLr (i := 4) S330 f328 (raS (raS (raS (raS ra0)))) (fun _ _ _ _ r => by obtain ⟨u0, s_u0, rfl, _, u1, s_u1, rfl, _, u2, s_u2, rfl, _, u3, s_u3, rfl, _, u4, s_u4, rfl, _, u5, rfl, _⟩ := r; exact Nat.le_of_ble_eq_true rfl) (fun u332 f333 => ?_)
     have f333 : (qO qI).r K F324 u332 (t322.1).2.2.2.2.1 := f333
     refine rd_gsub <| rd_v rfl <| rd_v rfl ?_
     refine rd_setO S330 w59 (us' := [u37, u39, u44, (V.bl ((a_rule_here.2.2.1, a_rule_here.2.2.2.1, a_rule_here.2.2.2.2.1, a_rule_here.2.2.2.2.2).2.1)), u332, (V.bl ((a_rule_here.2.2.1, a_rule_here.2.2.2.1, a_rule_here.2.2.2.2.1, a_rule_here.2.2.2.2.2).2.2.2))]) (j := 4) (by rw [of_decide_eq_true hi320]; rfl) (by rfl) (fun H334 c335 w336 => ?_)
     have S337 := S330.call1 c335 w59
     obtain ⟨f_rule_here, h38, h40, h45, f333⟩ := up5 f_rule_here h38 h40 h45 f333 c335
     have w331 := w331.call c335 (by intro z; exact ne60 z)
     obtain ⟨F338, S339, le340, f341, eq342⟩ := fzRec (B := τ2ₓ) (a := ((t3.1, t15.1).1, (t3.1, t15.1).2, (a_rule_here.2.2.1, a_rule_here.2.2.2.1, a_rule_here.2.2.2.2.1, a_rule_here.2.2.2.2.2).1, (a_rule_here.2.2.1, a_rule_here.2.2.2.1, a_rule_here.2.2.2.2.1, a_rule_here.2.2.2.2.2).2.1, (t322.1).2.2.2.2.1, (a_rule_here.2.2.1, a_rule_here.2.2.2.1, a_rule_here.2.2.2.2.1, a_rule_here.2.2.2.2.2).2.2.2)) S337 w336 z61 ⟨_, _, rfl, h38, _, _, rfl, h40, _, _, rfl, h45, _, _, rfl, rfl, _, _, rfl, f333, _, rfl, rfl⟩
     have f_rule_here := (qLr τ2ₓ).mono le340 f_rule_here
     have h38 := (qL τ0ₓ).mono le340 h38
     have h40 := (qL τ0ₓ).mono le340 h40
     have h45 := (qO qI).mono le340 h45
     have f333 := (qO qI).mono le340 f333
     have w331 := w331.fzO ne60 eq342
     cases hm321
     refine rd_ret <| rd_v rfl ?_
     exact hQ _ _ _ S339 w331 f341
    rcases if_or hm321 with ⟨hi343, hm344⟩ | ⟨_, hm344⟩
    ·
     obtain ⟨t345, e346, hm344⟩ := bd_some hm344
     refine rd_op <| rd_call <| rd_cons <| rd_v rfl <| rd_nil ?_
     refine ⟨F266, _, _, t345, rfl, S272.sub, w273.arg, e346, fun v350 F347 H348 c349 w352 f351 => ?_⟩
     have S353 := S272.call1 c349 w273
     obtain ⟨f_rule_here, h38, h40, h45, h49⟩ := up5 f_rule_here h38 h40 h45 h49 c349
     have w59 := w59.call c349 (by intro z; exact (Ne.symm ne60) z)
     have w354 := w273.back w352
     refine rd_v rfl ?_
     refine rd_ixAt (j := 5) (of_decide_eq_true hi343) ?_
     refine rd_xLr (i := 5) S353 f351 (raS (raS (raS (raS (raS ra1))))) (fun _ _ _ _ r => by obtain ⟨u0, s_u0, rfl, _, u1, s_u1, rfl, _, u2, s_u2, rfl, _, u3, s_u3, rfl, _, u4, s_u4, rfl, _, u5, rfl, _⟩ := r; exact Nat.le_of_ble_eq_true rfl) (fun u355 f356 => ?_)
     cases (show u355 = (V.bl ((t345.1).2.2.2.2.2)) from f356)
     refine rd_gsub <| rd_v rfl <| rd_v rfl ?_
     refine rd_setO S353 w59 (us' := [u37, u39, u44, (V.bl ((a_rule_here.2.2.1, a_rule_here.2.2.2.1, a_rule_here.2.2.2.2.1, a_rule_here.2.2.2.2.2).2.1)), u48, (V.bl ((t345.1).2.2.2.2.2))]) (j := 5) (by rw [of_decide_eq_true hi343]; rfl) (by rfl) (fun H357 c358 w359 => ?_)
     have S360 := S353.call1 c358 w59
     obtain ⟨f_rule_here, h38, h40, h45, h49⟩ := up5 f_rule_here h38 h40 h45 h49 c358
     have w354 := w354.call c358 (by intro z; exact ne60 z)
     obtain ⟨F361, S362, le363, f364, eq365⟩ := fzRec (B := τ2ₓ) (a := ((t3.1, t15.1).1, (t3.1, t15.1).2, (a_rule_here.2.2.1, a_rule_here.2.2.2.1, a_rule_here.2.2.2.2.1, a_rule_here.2.2.2.2.2).1, (a_rule_here.2.2.1, a_rule_here.2.2.2.1, a_rule_here.2.2.2.2.1, a_rule_here.2.2.2.2.2).2.1, (a_rule_here.2.2.1, a_rule_here.2.2.2.1, a_rule_here.2.2.2.2.1, a_rule_here.2.2.2.2.2).2.2.1, (t345.1).2.2.2.2.2)) S360 w359 z61 ⟨_, _, rfl, h38, _, _, rfl, h40, _, _, rfl, h45, _, _, rfl, rfl, _, _, rfl, h49, _, rfl, rfl⟩
     have f_rule_here := (qLr τ2ₓ).mono le363 f_rule_here
     have h38 := (qL τ0ₓ).mono le363 h38
     have h40 := (qL τ0ₓ).mono le363 h40
     have h45 := (qO qI).mono le363 h45
     have h49 := (qO qI).mono le363 h49
     have w354 := w354.fzO ne60 eq365
     cases hm344
     refine rd_ret <| rd_v rfl ?_
     exact hQ _ _ _ S362 w354 f364
    ·
     cases hm344
   ·
    obtain ⟨F366, S367, le368, f369, eq370⟩ := fzRec (B := τ2ₓ) (a := ((t3.1, t15.1).1, (t3.1, t15.1).2, (a_rule_here.2.2.1, a_rule_here.2.2.2.1, a_rule_here.2.2.2.2.1, a_rule_here.2.2.2.2.2).1, (a_rule_here.2.2.1, a_rule_here.2.2.2.1, a_rule_here.2.2.2.2.1, a_rule_here.2.2.2.2.2).2.1, (a_rule_here.2.2.1, a_rule_here.2.2.2.1, a_rule_here.2.2.2.2.1, a_rule_here.2.2.2.2.2).2.2.1, (a_rule_here.2.2.1, a_rule_here.2.2.2.1, a_rule_here.2.2.2.2.1, a_rule_here.2.2.2.2.2).2.2.2)) S261 w59 z61 ⟨_, _, rfl, h38, _, _, rfl, h40, _, _, rfl, h45, _, _, rfl, rfl, _, _, rfl, h49, _, rfl, rfl⟩
    have f_rule_here := (qLr τ2ₓ).mono le368 f_rule_here
    have h38 := (qL τ0ₓ).mono le368 h38
    have h40 := (qL τ0ₓ).mono le368 h40
    have h45 := (qO qI).mono le368 h45
    have h49 := (qO qI).mono le368 h49
    have w262 := w262.fzO ne60 eq370
    cases hm
    refine rd_next <| rd_ret <| rd_v rfl ?_
    exact hQ _ _ _ S367 w262 f369
def sp_law (K : PySem.W.Frag) : Sp := fun vs H Q _ => ∃ (F : Hp) (v_script : V) (a_script : List Int) (r : Bool), vs = [v_script] ∧ Same F H ∧ qC.r K F v_script a_script ∧ m_law a_script = some r ∧ ∀ v F' H', Sx P0 F H F' H' → qB.r K F' v r → Q v H'
theorem sc_law : FnScope ["_law_script", "_law_k", "_law_pool_here", "_law_rule_here"] ["_law_script"] (defScope s_law) := ⟨rfl, rfl, rfl, by decide +kernel, rfl, by decide +kernel, by decide +kernel⟩
theorem bn_law (T : Tx P K mg) : Binds K (fdOf K ("law", none)) ["_law_script"] [] := FunD.bindsN T.F_law fun _ _ _ _ _ _ us hl => match us, hl with | [_], _ => rfl
theorem ok_law (T : Tx P K mg) : FnOk P w K mg base CX0 18 (He.ga K "law") (fdOf K ("law", none)) ["_law_script"] (sp_law K) := by
 refine FunD.ok T.F_law sc_law (fun vs H0 Q E h => ?_) (fun cdv A outer s H0 vs Q E hr h => ?_)
 ·
  obtain ⟨_, _, _, _, rfl, _⟩ := h
  rfl
 ·
  obtain ⟨F0, v_script, a_script, r, rfl, hE, f_script, hm, hQ⟩ := h
  refine ⟨_, PSs.nox ((pss_cons (ps_for PassesOwn.never rfl (pi_range1 (by rfl) T.n_range (pa_cons (pe_callB (cr_max2 rfl) (by rfl) T.n_max (by decide +kernel) (pa_cons pe_int (pa_cons (pe_callB (cr_min2 rfl) (by rfl) T.n_min (by decide +kernel) (pa_cons pe_int (pa_cons (pe_callB (r := rLenQ K) cr_lenQ (by rfl) T.n_len (by decide +kernel) (pa_cons (pv 0) pa_nil)) pa_nil))) pa_nil))) pa_nil)) (pg_name (i := 1) sc_law.nd rfl (dk rfl)) (pss_cons (ps_set (i := 2) sc_law.nd rfl (dk rfl) (pe_call (ok_law_pool T) (hr.mono (by decide)) (by rfl) T.g_law_pool T.F_law_pool.kp (bn_law_pool T) .nil pass0 (pa_cons (pv 0) (pa_cons (pv 1) pa_nil)))) (pss_cons (ps_set (i := 3) sc_law.nd rfl (dk rfl) (pe_call (ok_law_rule T) (hr.mono (by decide)) (by rfl) T.g_law_rule T.F_law_rule.kp (bn_law_rule T) .nil pass0 (pa_cons (pv 2) pa_nil))) (pss_cons (ps_if (pt_not (pt_val (pe_call (ok_law_right T) (hr.mono (by decide)) (by rfl) T.g_law_right T.F_law_right.kp (bn_law_right T) .nil pass0 (pa_cons (pv 2) (pa_cons (pv 3) (pa_cons (pe_call (ok_law_other T) (hr.mono (by decide)) (by rfl) T.g_law_other T.F_law_other.kp (bn_law_other T) .nil pass0 (pa_cons (pv 2) (pa_cons (pv 3) pa_nil))) pa_nil)))))) (pss_one (ps_ret pe_bl)) pss_nil) (pss_one (ps_if (pt_not (pt_val (pe_call (ok_law_statics T) (hr.mono (by decide)) (by rfl) T.g_law_statics T.F_law_statics.kp (bn_law_statics T) .nil pass0 (pa_cons (pe_call (ok_law_built T) (hr.mono (by decide)) (by rfl) T.g_law_built T.F_law_built.kp (bn_law_built T) .nil pass0 (pa_cons (pe_call (ok_law_tree T) (hr.mono (by decide)) (by rfl) T.g_law_tree T.F_law_tree.kp (bn_law_tree T) .nil pass0 (pa_cons (pv 2) pa_nil)) pa_nil)) (pa_cons (pe_call (ok_law_built T) (hr.mono (by decide)) (by rfl) T.g_law_built T.F_law_built.kp (bn_law_built T) .nil pass0 (pa_cons (pe_call (ok_law_tree T) (hr.mono (by decide)) (by rfl) T.g_law_tree T.F_law_tree.kp (bn_law_tree T) .nil pass0 (pa_cons (pv 2) pa_nil)) pa_nil)) pa_nil))))) (pss_one (ps_ret pe_bl)) pss_nil)))))) (pss_one (ps_ret pe_bl)))), ?_⟩
  have S : Sx P0 F0 H0 F0 H0 := Sx.refl0 hE
  unfold m_law at hm
  obtain ⟨g1, hm⟩ := gd_some hm
  refine rd_seq <| rd_for ?_
  refine rd_iR1 ?_
  refine rd_cons <| rd_cb <| rd_cons <| rd_c <| rd_cons <| rd_cb <| rd_cons <| rd_c <| rd_cons <| rd_cb <| rd_cons <| rd_v rfl <| rd_nil ?_
  refine rd_lenQ (S.c f_script).q ?_
  refine rd_nil ?_
  refine rd_min2 ?_
  refine rd_nil ?_
  refine rd_max2 ?_
  refine rd_nil ?_
  refine rd_r1 g1 ?_
  obtain ⟨t2, e3, hm⟩ := bd_some hm
  refine rd_forC feedsRg (typedR (K := K) (F := F0)) e3 (fun (s4 : Unit) σ H => ∃ (F : Hp) (o1 : Option V) (o2 : Option V) (o3 : Option V), σ = [some v_script, o1, o2, o3] ∧ Sx P0 F0 H0 F H) ?_ ?_ ?_ ?_
  ·
   intro _ _ _ _; trivial
  ·
   have S6 := Sx.refl0 S.sub
   exact ⟨F0, _, _, _, rfl, S6⟩
  ·
   rintro x7 v8 s9 c13 σ10 H11 f12 ⟨F14, o16, o17, o18, rfl, S15⟩ hm21 hbk19 hrt20
   have f_script := f_script.up S15
   unfold m_law_b1 at hm21
   cases (show v8 = (V.int (x7)) from f12)
   obtain ⟨t22, e23, hm21⟩ := bd_some hm21
   refine rd_gn <| rd_seq <| rd_asg <| rd_call <| rd_cons <| rd_v rfl <| rd_cons <| rd_v rfl <| rd_nil ?_
   refine ⟨F14, _, _, _, t22, rfl, S15.sub, f_script, e23, fun p27 F24 H25 np28 c26 w29 => ?_⟩
   have z30 := S15.free0 np28
   have S31 := S15.call0 c26
   have f_script := f_script.up c26
   have w32 : Ow P0 H0 _ _ _ _ := ⟨w29.fr, w29.at_, .inl z30⟩
   obtain ⟨t33, e34, hm21⟩ := bd_some hm21
   refine rd_gn <| rd_seq <| rd_asg <| rd_call <| rd_cons <| rd_v rfl <| rd_nil ?_
   refine ⟨F24, _, _, t33, rfl, S31.sub, w32.arg, e34, fun v38 F35 H36 c37 w40 f39 => ?_⟩
   have S41 := S31.call1 c37 w32
   have f_script := f_script.up c37
   have w42 := w32.back w40
   obtain ⟨t43, e44, hm21⟩ := bd_some hm21
   refine rd_gn <| rd_seq <| rd_ifS <| rd_not <| rd_tB <| rd_call <| rd_cons <| rd_v rfl <| rd_cons <| rd_v rfl <| rd_cons <| rd_call <| rd_cons <| rd_v rfl <| rd_cons <| rd_v rfl <| rd_nil ?_
   refine ⟨F35, _, _, _, _, t43, rfl, S41.sub, w42.arg, f39, e44, fun v48 F45 H46 c47 w50 f49 => ?_⟩
   have S51 := S41.call1 c47 w42
   obtain ⟨f_script, f39⟩ := up2 f_script f39 c47
   have w52 := w42.back w50
   obtain ⟨t53, e54, hm21⟩ := bd_some hm21
   refine rd_nil ?_
   refine ⟨F45, _, _, _, _, _, _, t53, rfl, S51.sub, w52.arg, f39, f49, e54, fun v58 F55 H56 c57 w60 f59 => ?_⟩
   have S61 := S51.call1 c57 w52
   obtain ⟨f_script, f39⟩ := up2 f_script f39 c57
   have w62 := w52.back w60
   cases (show v58 = (V.bl (t53.1)) from f59)
   refine rd_b ?_
   refine if_b hm21 (fun b63 hm21 => ?_) (fun b63 hm21 => ?_)
   ·
    cases hm21
    have e64 := hrt20 _ rfl
    subst e64
    have hm := aft_rt hm
    have S65 := S.call0 S61
    cases hm
    refine rd_ret <| rd_c ?_
    exact hQ _ _ _ S65 rfl
   ·
    obtain ⟨t66, e67, hm21⟩ := bd_some hm21
    refine rd_next <| rd_ifS <| rd_not <| rd_tB <| rd_call <| rd_cons <| rd_call <| rd_cons <| rd_call <| rd_cons <| rd_v rfl <| rd_nil ?_
    refine ⟨F55, _, _, t66, rfl, S61.sub, w62.arg, e67, fun v71 F68 H69 c70 w73 f72 => ?_⟩
    have S74 := S61.call1 c70 w62
    obtain ⟨f_script, f39⟩ := up2 f_script f39 c70
    have w75 := w62.back w73
    obtain ⟨t76, e77, hm21⟩ := bd_some hm21
    refine rd_nil ?_
    refine ⟨F68, _, _, t76, rfl, S74.sub, f72, e77, fun v81 F78 H79 c80 f82 => ?_⟩
    have S83 := S74.call0 c80
    obtain ⟨f_script, f39⟩ := up2 f_script f39 c80
    have w75 := w75.call0 c80
    obtain ⟨t84, e85, hm21⟩ := bd_some hm21
    refine rd_cons <| rd_call <| rd_cons <| rd_call <| rd_cons <| rd_v rfl <| rd_nil ?_
    refine ⟨F78, _, _, t84, rfl, S83.sub, w75.arg, e85, fun v89 F86 H87 c88 w91 f90 => ?_⟩
    have S92 := S83.call1 c88 w75
    obtain ⟨f_script, f39, f82⟩ := up3 f_script f39 f82 c88
    have w93 := w75.back w91
    obtain ⟨t94, e95, hm21⟩ := bd_some hm21
    refine rd_nil ?_
    refine ⟨F86, _, _, t94, rfl, S92.sub, f90, e95, fun v99 F96 H97 c98 f100 => ?_⟩
    have S101 := S92.call0 c98
    obtain ⟨f_script, f39, f82⟩ := up3 f_script f39 f82 c98
    have w93 := w93.call0 c98
    obtain ⟨t102, e103, hm21⟩ := bd_some hm21
    refine rd_nil ?_
    refine ⟨F96, _, _, _, _, t102, rfl, S101.sub, f82, f100, e103, fun v107 F104 H105 c106 f108 => ?_⟩
    have S109 := S101.call0 c106
    obtain ⟨f_script, f39⟩ := up2 f_script f39 c106
    have w93 := w93.call0 c106
    cases (show v107 = (V.bl (t102)) from f108)
    refine rd_b ?_
    refine if_b hm21 (fun b110 hm21 => ?_) (fun b110 hm21 => ?_)
    ·
     cases hm21
     have e111 := hrt20 _ rfl
     subst e111
     have hm := aft_rt hm
     have S112 := S.call0 S109
     cases hm
     refine rd_ret <| rd_c ?_
     exact hQ _ _ _ S112 rfl
    ·
     cases hm21
     refine rd_next ?_
     exact ⟨_, rfl, ⟨F104, _, _, _, rfl, S109⟩⟩
  ·
   rintro s115 σ113 H114 e116 ⟨F117, o119, o120, o121, rfl, S118⟩
   subst e116
   have hm := aft_nx hm
   have S122 := S.call0 S118
   have f_script := f_script.up S118
   cases hm
   refine rd_ret <| rd_c ?_
   exact hQ _ _ _ S122 rfl
end

theorem take_ok {p : Int × Int} {n : Int} (h : 0 < n) (h2 : n < 16000000) : Ok (m_law_take p n) fun r => 0 ≤ r.1 ∧ r.1 < n := by
  unfold m_law_take
  have hm : modOk n = true := modOk_ok h
  have hz : n ≠ 0 := by omega
  refine Ok.ite (fun _ => ?_) fun _ => ?_
  · exact Ok.gd hm (Ok.gd (divOk_ok h (by omega)) (Ok.sm ⟨Int.emod_nonneg _ hz, Int.emod_lt_of_pos _ h⟩))
  · have b1 : 0 ≤ (p.2 * 48271 + 11) % 2147483647 := Int.emod_nonneg _ (by decide)
    have b2 : (p.2 * 48271 + 11) % 2147483647 < 2147483647 := Int.emod_lt_of_pos _ (by decide)
    refine Ok.gd (mulOk_r (by decide) (by decide)) (Ok.gd (by decide) (Ok.gd (mulOk_l ?_ ?_) (Ok.gd (by decide) (Ok.gd (by decide) (Ok.gd hm (Ok.sm ⟨Int.emod_nonneg _ hz, Int.emod_lt_of_pos _ h⟩))))))
    · show -(2 ^ 64) < (p.2 * 48271 + 11) % 2147483647
      omega
    · show (p.2 * 48271 + 11) % 2147483647 < 2 ^ 64
      omega
theorem pool_ok {ns : List Int} {k : Int} (h0 : 0 ≤ k) (h1 : k < 1000) : Ok (m_law_pool ns k) fun _ => True := by
  unfold m_law_pool
  refine Ok.bd (P := fun _ => True) (Ok.gd (shp_lI _) (Ok.gd (shp_lI _) (Ok.ite (fun e => ?_) fun _ => Ok.sm trivial))) fun t _ => ?_
  · have hn : ns ≠ [] := by simpa using e
    have hl : (0 : Int) < (ns.length : Int) := by
      cases ns with
      | nil => exact absurd rfl hn
      | cons x xs => show (0 : Int) < ((xs.length + 1 : Nat) : Int); omega
    refine Ok.gd (modOk_ok hl) ?_
    have b1 : 0 ≤ k % (ns.length : Int) := Int.emod_nonneg _ (by omega)
    have b2 : k % (ns.length : Int) < ns.length := Int.emod_lt_of_pos _ hl
    have hlt : (k % (ns.length : Int)).toNat < ns.length := by omega
    exact Ok.bde (a := ns[(k % (ns.length : Int)).toNat]) (by rw [atI_nn b1 b2]; simp [hlt]) (Ok.sm trivial)
  · have b1 : 0 ≤ t % 2147483629 := Int.emod_nonneg _ (by decide)
    have b2 : t % 2147483629 < 2147483629 := Int.emod_lt_of_pos _ (by decide)
    refine Ok.gd (by decide) (Ok.gd (mulOk_l (by decide) (by decide)) (Ok.gd (mulOk_r (by decide) (by decide)) (Ok.gd (by decide) (Ok.gd (by decide) (Ok.gd (mulOk_r ?_ ?_) (Ok.sm trivial))))))
    · unfold b2I; split <;> decide
    · unfold b2I; split <;> decide

abbrev SG : Str := " #-.0123456789:>ABCDEFGHIJKLMNOPQRSTUVWXYZabcdefghijklmnopqrstuvwxyz"
def gs (s : Str) : Prop := ∀ c ∈ cl s, c ∈ cl SG
theorem gs_app {a b : Str} (h : gs a) (k : gs b) : gs (a ++ b) := by
  intro c hc
  rw [cl_app, List.mem_append] at hc
  exact hc.elim (h c) (k c)
theorem gs_sg {c : Nat} (h : c ∈ cl SG) : gs ⟨#[c]⟩ := fun d hd => by
  rw [cl_sg, List.mem_singleton] at hd
  rw [hd]; exact h
theorem gs_rep {s : Str} {n : Int} (h0 : 0 ≤ n) (h : gs s) : gs (repS s n) := fun c hc => by
  rw [repS_cl h0, List.mem_flatten] at hc
  obtain ⟨l, h1, h2⟩ := hc
  rw [List.mem_replicate] at h1
  exact h c (h1.2 ▸ h2)
theorem gs_ok {s : Str} (h : gs s) : okS s := by
  have e : ∀ c ∈ cl SG, c < 0x110000 := by decide +kernel
  show (s.cps.all (· < 0x110000)) = true
  rw [Array.all_eq_true_iff_forall_mem]
  intro c hc
  exact decide_eq_true (e c (h c (Array.mem_toList_iff.mpr hc)))
theorem gs_nil : gs "" := fun c hc => by
  have e : cl "" = [] := by decide +kernel
  rw [e] at hc
  exact absurd hc List.not_mem_nil
theorem gs_at {s z : Str} {c : Nat} {i : Nat} (h : gs s) (h1 : (cl s)[i]? = some c) (h2 : z = ⟨#[c]⟩) : gs z ∧ z.length = 1 := by
  subst h2
  exact ⟨gs_sg (h c (List.mem_of_getElem? h1)), rfl⟩
theorem gs_SG : gs SG := fun c hc => hc
theorem ix_gs {s : Str} {i : Int} (g : gs s) (h : 0 ≤ i) (h2 : i < s.length) (h3 : s.length ≤ 16000000) : Ok (ixS s i) fun z => gs z ∧ z.length = 1 :=
  (ixS_ok h h2 (Nat.le_trans h3 sizeLine_big)).mono fun z ⟨c, h1, h2⟩ => gs_at g h1 h2
theorem len_app (a b : Str) : (a ++ b).length = a.length + b.length := by rw [cl_len, cl_app, List.length_append, ← cl_len, ← cl_len]
theorem len_rep {s : Str} {n : Int} (h : 0 ≤ n) : (repS s n).length = n.toNat * s.length := by
  rw [cl_len, repS_cl h, List.length_flatten, List.map_replicate, List.sum_replicate_nat, ← cl_len]
theorem len_nil : ("" : Str).length = 0 := by decide +kernel

abbrev DG : Str := "<digits>"
abbrev WD : Str := "<word>"
abbrev AN : Str := "<any>"
def part (s : Str) : Prop := s = AN ∨ s = DG ∨ s = WD ∨ (gs s ∧ 1 ≤ s.length ∧ s.length ≤ 4)
theorem part_ok {s : Str} (h : part s) : okS s := by
  rcases h with rfl | rfl | rfl | h
  · show PyData.strOk _ = true; decide +kernel
  · show PyData.strOk _ = true; decide +kernel
  · show PyData.strOk _ = true; decide +kernel
  · exact gs_ok h.1
theorem part_len {s : Str} (h : part s) : 1 ≤ s.length ∧ s.length ≤ 8 := by
  rcases h with rfl | rfl | rfl | h
  · decide +kernel
  · decide +kernel
  · decide +kernel
  · omega
theorem Ok.wh {S : Type} {c : S → Option (Bool × S)} {f : S → Option S} {Q : S → Prop} (I : S → Prop) (m : S → Nat) (hs : ∀ s, I s → Ok (c s) fun b => (b.1 = false ∧ Q b.2) ∨ (b.1 = true ∧ Ok (f b.2) fun s' => I s' ∧ m s' < m s)) : ∀ (N : Nat) (s : S), I s → m s < N → Ok (whileS c f N s) Q
  | 0, _, _, h => absurd h (Nat.not_lt_zero _)
  | N + 1, s, i, h => by
    obtain ⟨b, e, h1⟩ := hs s i
    show Ok ((c s).bind fun b => if b.1 = true then (f b.2).bind fun s' => whileS c f N s' else some b.2) Q
    rw [e]
    show Ok (if b.1 = true then (f b.2).bind fun s' => whileS c f N s' else some b.2) Q
    rcases h1 with ⟨hb, q⟩ | ⟨hb, h2⟩
    · rw [hb]; exact Ok.sm q
    · rw [hb]
      exact Ok.bd h2 fun s' ⟨i', h3⟩ => Ok.wh I m hs N s' i' (by omega)
theorem nodup_len : ∀ (n : Nat) (l : List Int), l.Nodup → (∀ x ∈ l, 0 ≤ x ∧ x < n) → l.length ≤ n
  | 0, l, _, h => by
    cases l with
    | nil => exact Nat.le_refl _
    | cons x l => have := h x List.mem_cons_self; omega
  | n + 1, l, hn, h => by
    have h1 := nodup_len n (l.erase (n : Int)) (hn.erase _) fun x hx => by
      rw [hn.mem_erase_iff] at hx
      have := h x hx.2
      have := hx.1
      omega
    by_cases hm : (n : Int) ∈ l
    · rw [List.length_erase_of_mem hm] at h1; omega
    · rw [List.erase_of_not_mem hm] at h1; omega
def tk (c x : Str) : Bool := if c = AN then true else if c = DG then inS x "0123456789" else if c = WD then inS x "ABCDEFGHIJKLMNOPQRSTUVWXYZabcdefghijklmnopqrstuvwxyz" else decide (c = x)
open Classical in
noncomputable def Pc (c : Str) (u : List Nat) : Prop := if c = AN then True else if c = DG ∨ c = WD then u ≠ [] ∧ ∀ x ∈ u, tk c ⟨#[x]⟩ = true else u = cl c
def Mt : List Str → List Nat → Prop
  | [], w => w = []
  | c :: cs, w => ∃ u v, w = u ++ v ∧ Pc c u ∧ Mt cs v
theorem Mt_snoc {c : Str} : ∀ {cs : List Str} {w : List Nat}, Mt (cs ++ [c]) w ↔ ∃ u v, w = u ++ v ∧ Mt cs u ∧ Pc c v
  | [], w => by
    constructor
    · rintro ⟨u, v, rfl, h, rfl⟩
      exact ⟨[], u, by simp, rfl, h⟩
    · rintro ⟨u, v, rfl, rfl, h⟩
      exact ⟨v, [], by simp, h, rfl⟩
  | d :: cs, w => by
    constructor
    · rintro ⟨u, v, rfl, h, k⟩
      obtain ⟨u2, v2, rfl, h2, k2⟩ := Mt_snoc.mp k
      exact ⟨u ++ u2, v2, by simp, ⟨u, u2, rfl, h, h2⟩, k2⟩
    · rintro ⟨u, v, rfl, ⟨u1, u2, rfl, h1, h2⟩, k⟩
      exact ⟨u1, u2 ++ v, by simp, h1, Mt_snoc.mpr ⟨u2, v, rfl, h2, k⟩⟩
theorem AN_ne : ¬ DG = AN ∧ ¬ WD = AN ∧ ¬ WD = DG := by decide +kernel
theorem Pc_any {u : List Nat} : Pc AN u := by unfold Pc; rw [if_pos rfl]; trivial
theorem Pc_run {c : Str} {u : List Nat} (h : c = DG ∨ c = WD) : Pc c u ↔ u ≠ [] ∧ ∀ x ∈ u, tk c ⟨#[x]⟩ = true := by
  have n : ¬ c = AN := by rcases h with rfl | rfl; exact AN_ne.1; exact AN_ne.2.1
  unfold Pc
  rw [if_neg n, if_pos h]
theorem Pc_fix {c : Str} {u : List Nat} (n : ¬ c = AN) (h : ¬ (c = DG ∨ c = WD)) : Pc c u ↔ u = cl c := by
  unfold Pc
  rw [if_neg n, if_neg h]
theorem takes_eq (c x : Str) : m_takes c x = some (tk c x) := by
  unfold m_takes tk
  by_cases h1 : c = AN
  · rw [if_pos (decide_eq_true h1), if_pos h1]
  · rw [if_neg (by rw [decide_eq_false h1]; decide), if_neg h1]
    by_cases h2 : c = DG
    · rw [if_pos (decide_eq_true h2), if_pos h2]
    · rw [if_neg (by rw [decide_eq_false h2]; decide), if_neg h2]
      by_cases h3 : c = WD
      · rw [if_pos (decide_eq_true h3), if_pos h3]
      · rw [if_neg (by rw [decide_eq_false h3]; decide), if_neg h3]
theorem ite_no {α : Type} {p : Prop} [Decidable p] {x y : α} (h : ¬ p) : (if decide p = true then x else y) = y := if_neg (by rw [decide_eq_false h]; decide)
theorem ite_ya {α : Type} {p : Prop} [Decidable p] {x y : α} (h : p) : (if decide p = true then x else y) = x := if_pos (decide_eq_true h)

theorem ends_ok {c line : Str} {a : Int} (h0 : 0 ≤ a) (h1 : a ≤ line.length) (hl : line.length ≤ 4000000) (hc : c.length ≤ 500) :
    Ok (m_law_ends c line a) fun es => es.Nodup ∧ ∀ e, e ∈ es ↔ a ≤ e ∧ e ≤ line.length ∧ Pc c (((cl line).drop a.toNat).take (e.toNat - a.toNat)) := by
  have hf : fitsS line = true := fitsS_ok (by omega)
  have hfc : fitsS c = true := fitsS_ok (by omega)
  have rnd : ∀ a b : Int, (rng a b).Nodup := fun a b => by
    unfold rng
    refine List.Pairwise.map _ (fun x y h => ?_) List.nodup_range
    intro e
    apply h
    omega
  unfold m_law_ends
  by_cases n1 : c = AN
  · rw [ite_ya n1]
    refine Ok.gd hf (Ok.gd (rgFit_ok (by omega) (by omega) (by omega) (by omega)) (Ok.sm ⟨rnd _ _, fun e => ?_⟩))
    rw [rng_mem]
    subst n1
    constructor
    · intro h; exact ⟨h.1, by omega, Pc_any⟩
    · intro h; omega
  · rw [ite_no n1]
    by_cases n2 : c = DG ∨ c = WD
    · have mem : c ∈ [("<digits>" : Str), ("<word>" : Str)] := by
        rcases n2 with h | h
        · rw [h]; exact List.mem_cons_self
        · rw [h]; exact List.mem_cons_of_mem _ List.mem_cons_self
      rw [ite_ya mem]
      obtain ⟨tkn, ht, htk⟩ : ∃ tkn : Str, ((if (decide (c = ("<word>" : Str))) = true then (some (("ABCDEFGHIJKLMNOPQRSTUVWXYZabcdefghijklmnopqrstuvwxyz" : Str))) else (some (("0123456789" : Str)))) : Option Str) = some tkn ∧ ∀ z, inS z tkn = tk c z := by
        rcases n2 with h | h
        · subst h
          exact ⟨_, if_neg (by decide +kernel), fun z => by unfold tk; rw [if_neg AN_ne.1, if_pos rfl]⟩
        · subst h
          exact ⟨_, if_pos (by decide +kernel), fun z => by unfold tk; rw [if_neg AN_ne.2.1, if_neg AN_ne.2.2, if_pos rfl]⟩
      refine Ok.bd (P := fun es => es.Nodup ∧ ∀ e, e ∈ es ↔ a ≤ e ∧ e ≤ line.length ∧ Pc c (((cl line).drop a.toNat).take (e.toNat - a.toNat))) ?_ fun es hes => Ok.sm hes
      refine Ok.bde ht ?_
      have ll : (cl line).length = line.length := (cl_len line).symm
      refine Ok.bd (P := fun s : List Int × Int => s.1 = rng (a + 1) (s.2 + 1) ∧ a ≤ s.2 ∧ s.2 ≤ line.length ∧ (∀ j : Nat, a ≤ j → (j : Int) < s.2 → ∃ x, (cl line)[j]? = some x ∧ tk c ⟨#[x]⟩ = true) ∧ (s.2 < line.length → ∃ x, (cl line)[s.2.toNat]? = some x ∧ tk c ⟨#[x]⟩ = false)) ?_ fun s ⟨e1, e2, e3, e4, e5⟩ => Ok.sm ⟨by rw [e1]; exact rnd _ _, fun e => ?_⟩
      · refine Ok.wh (fun s : List Int × Int => s.1 = rng (a + 1) (s.2 + 1) ∧ a ≤ s.2 ∧ s.2 ≤ line.length ∧ (∀ j : Nat, a ≤ j → (j : Int) < s.2 → ∃ x, (cl line)[j]? = some x ∧ tk c ⟨#[x]⟩ = true)) (fun s => line.length - s.2.toNat) (fun s ⟨e1, e2, e3, e4⟩ => ?_) fuel _ ⟨?_, Int.le_refl _, h1, fun j h2 h3 => absurd h3 (by omega)⟩ ?_
        · unfold m_law_ends_b1
          refine Ok.gd hf ?_
          by_cases hlt : s.2 < (line.length : Int)
          · rw [ite_ya hlt]
            have hlt2 : s.2.toNat < (cl line).length := by rw [ll]; omega
            have hz : ixS line s.2 = some ⟨#[(cl line)[s.2.toNat]]⟩ := by
              obtain ⟨z, e, x, hx, hz⟩ := ixS_ok (s := line) (i := s.2) (by omega) hlt (Nat.le_trans hl (Nat.le_trans (by decide) sizeLine_big))
              rw [e, hz]
              rw [List.getElem?_eq_getElem hlt2] at hx
              rw [Option.some.inj hx]
            rw [hz]
            show Ok (some (inS _ tkn, (s.1, s.2))) _
            rw [htk]
            refine Ok.sm ?_
            cases hb : tk c ⟨#[(cl line)[s.2.toNat]]⟩ with
            | false => exact .inl ⟨rfl, e1, e2, e3, e4, fun _ => ⟨_, List.getElem?_eq_getElem hlt2, hb⟩⟩
            | true =>
              refine .inr ⟨rfl, ?_⟩
              unfold m_law_ends_b2
              refine Ok.gd (fits_ok ?_) (Ok.sm ⟨⟨?_, ?_, ?_, fun j h2 h3 => ?_⟩, ?_⟩)
              · show s.1.length < 16000000
                rw [e1, rng_len]; omega
              · show s.1 ++ [s.2 + 1] = rng (a + 1) (s.2 + 1 + 1)
                rw [rng_snoc (by omega), e1]
              · show a ≤ s.2 + 1
                omega
              · show s.2 + 1 ≤ line.length
                omega
              · have h3 : (j : Int) < s.2 + 1 := h3
                by_cases ej : (j : Int) < s.2
                · exact e4 j h2 ej
                · have : j = s.2.toNat := by omega
                  subst this
                  exact ⟨_, List.getElem?_eq_getElem hlt2, hb⟩
              · show line.length - (s.2 + 1).toNat < line.length - s.2.toNat
                omega
          · rw [ite_no hlt]
            show Ok (some (false, (s.1, s.2))) _
            exact Ok.sm (.inl ⟨rfl, e1, e2, e3, e4, fun h => absurd h hlt⟩)
        · show [] = rng (a + 1) (a + 1)
          unfold rng
          rw [show (a + 1 - (a + 1)).toNat = 0 by omega]; rfl
        · show line.length - a.toNat < 1000000000
          omega
      · show e ∈ s.1 ↔ _
        rw [e1, rng_mem, Pc_run n2]
        constructor
        · intro h
          refine ⟨by omega, by omega, ?_, fun x hx => ?_⟩
          · intro h2
            have := congrArg List.length h2
            rw [List.length_take, List.length_drop] at this
            simp at this
            omega
          · obtain ⟨i, hi⟩ := List.getElem?_of_mem hx
            rw [List.getElem?_take] at hi
            split at hi
            · rw [List.getElem?_drop] at hi
              obtain ⟨y, hy1, hy2⟩ := e4 (a.toNat + i) (by omega) (by omega)
              rw [hi] at hy1
              cases hy1
              exact hy2
            · cases hi
        · rintro ⟨h2, h3, h4, h5⟩
          refine ⟨?_, ?_⟩
          · apply Classical.byContradiction
            intro h6
            have : e.toNat - a.toNat = 0 := by omega
            rw [this] at h4
            exact h4 rfl
          · apply Classical.byContradiction
            intro h6
            obtain ⟨x, hx1, hx2⟩ := e5 (by omega)
            have := h5 x (by
              apply List.mem_of_getElem? (i := s.2.toNat - a.toNat)
              rw [List.getElem?_take, if_pos (by omega), List.getElem?_drop, ← hx1]
              congr 1
              omega)
            rw [this] at hx2
            cases hx2
    · have mem : ¬ c ∈ [("<digits>" : Str), ("<word>" : Str)] := by
        intro h
        rcases List.mem_cons.mp h with h | h
        · exact n2 (.inl h)
        · rcases List.mem_cons.mp h with h | h
          · exact n2 (.inr h)
          · cases h
      rw [ite_no mem]
      refine Ok.bd (P := fun es => es.Nodup ∧ ∀ e, e ∈ es ↔ a ≤ e ∧ e ≤ line.length ∧ Pc c (((cl line).drop a.toNat).take (e.toNat - a.toNat))) ?_ fun es hes => Ok.sm hes
      have ll : (cl line).length = line.length := (cl_len line).symm
      have cc : (cl c).length = c.length := (cl_len c).symm
      have ec : cl (cutS line (some a) (some (a + (c.length : Int)))) = ((cl line).drop a.toNat).take c.length := by
        rw [cl_cut, cut_mid _ h0 (by omega)]
        congr 1
        omega
      refine Ok.gd hfc (Ok.gd hf ?_)
      by_cases he : cutS line (some a) (some (a + (c.length : Int))) = c
      · rw [ite_ya he]
        rw [he] at ec
        refine Ok.gd hfc (Ok.gd (fits_ok (by simp)) (Ok.sm ⟨by simp, fun e => ?_⟩))
        rw [Pc_fix n1 n2]
        show e ∈ [a + (c.length : Int)] ↔ _
        rw [List.mem_singleton]
        have hlen := congrArg List.length ec
        rw [List.length_take, List.length_drop, cc, ll] at hlen
        constructor
        · rintro rfl
          refine ⟨by omega, by omega, ?_⟩
          rw [ec]
          congr 1
          omega
        · rintro ⟨h2, h3, h4⟩
          have := congrArg List.length h4
          rw [List.length_take, List.length_drop, cc, ll] at this
          omega
      · rw [ite_no he]
        refine Ok.sm ⟨List.nodup_nil, fun e => ?_⟩
        rw [Pc_fix n1 n2]
        constructor
        · intro h; cases h
        · rintro ⟨h2, h3, h4⟩
          exfalso
          apply he
          apply cl_inj
          rw [ec, ← h4]
          have := congrArg List.length h4
          rw [List.length_take, List.length_drop, cc, ll] at this
          congr 1
          omega

theorem take_mid {α : Type} {w : List α} {a b : Nat} (h : a ≤ b) : w.take b = w.take a ++ (w.drop a).take (b - a) := by
  have e : b = a + (b - a) := by omega
  rw [e, List.take_add, Nat.add_sub_cancel_left]
open Classical in
theorem fits_eq {ps : List Str} {line : Str} (hl : line.length ≤ 4000000) (hc : ∀ c ∈ ps, c.length ≤ 500) : m_law_fits ps line = some (decide (line ≠ "" ∧ Mt ps (cl line))) := by
  refine Ok.eq ?_
  have ll : (cl line).length = line.length := (cl_len line).symm
  have hf : fitsS line = true := fitsS_ok (by omega)
  unfold m_law_fits
  refine Ok.bd (Ok.loop (fun pre (s : List Int) => s.Nodup ∧ ∀ e, e ∈ s ↔ 0 ≤ e ∧ e ≤ line.length ∧ Mt pre ((cl line).take e.toNat)) ⟨by simp, fun e => ?_⟩ fun pre x post s hx ⟨nd, hs⟩ => ?_) fun s ⟨nd, hs⟩ => ?_
  · rw [List.mem_singleton]
    show e = 0 ↔ 0 ≤ e ∧ e ≤ line.length ∧ (cl line).take e.toNat = []
    constructor
    · rintro rfl; exact ⟨by omega, by omega, rfl⟩
    · rintro ⟨h1, h2, h3⟩
      have := congrArg List.length h3
      rw [List.length_take, ll] at this
      simp at this
      omega
  · unfold m_law_fits_b3
    refine Ok.bd (Ok.loop (fun pre2 (s2 : List Int) => s2.Nodup ∧ ∀ e, e ∈ s2 ↔ ∃ a ∈ pre2, a ≤ e ∧ e ≤ line.length ∧ Pc x (((cl line).drop a.toNat).take (e.toNat - a.toNat))) ⟨List.nodup_nil, fun e => ?_⟩ fun pre2 a post2 s2 ha ⟨nd2, hs2⟩ => ?_) fun s2 ⟨nd2, hs2⟩ => Ok.sm ⟨nd2, fun e => ?_⟩
    · constructor
      · intro h; cases h
      · rintro ⟨a, h, _⟩; cases h
    · have hab : a ∈ s := by rw [ha]; simp
      have hab2 := (hs a).mp hab
      have bnd : ∀ l : List Int, l.Nodup → (∀ e ∈ l, 0 ≤ e ∧ e ≤ line.length) → l.length ≤ 4000001 := fun l h h2 => by
        have := nodup_len (line.length + 1) l h fun e he => by have := h2 e he; omega
        omega
      have hb2 : ∀ e ∈ s2, 0 ≤ e ∧ e ≤ (line.length : Int) := fun e he => by
        obtain ⟨a', ha', h2, h3, _⟩ := (hs2 e).mp he
        have := ((hs a').mp (by rw [ha]; exact List.mem_append_left _ ha')).1
        omega
      unfold m_law_fits_b2
      refine Ok.bd (ends_ok hab2.1 hab2.2.1 hl (hc x (by rw [hx]; simp))) fun es ⟨nde, hes⟩ => ?_
      have hbe : ∀ e ∈ es, 0 ≤ e ∧ e ≤ (line.length : Int) := fun e he => by
        have := (hes e).mp he
        omega
      have l1 := bnd es nde hbe
      have l2 := bnd s2 nd2 hb2
      refine Ok.gd (fitsE_ok (by omega)) ?_
      refine Ok.bde (comp_pure (g := fun e => if (!decide (e ∈ s2)) = true then some e else none) fun e _ => ?_) ?_
      · unfold m_law_fits_b1
        cases decide (e ∈ s2) <;> rfl
      · rw [filterMap_ite]
        have l3 : (es.filter fun e => !decide (e ∈ s2)).length ≤ es.length := List.length_filter_le _ _
        refine Ok.gd (fits2_ok (by show s2.length + (es.filter fun e => !decide (e ∈ s2)).length ≤ 16000000; omega)) (Ok.sm ⟨?_, fun e => ?_⟩)
        · refine List.nodup_append.mpr ⟨nd2, nde.filter _, fun y hy z hz e => ?_⟩
          rw [List.mem_filter] at hz
          rw [e] at hy
          have h3 := hz.2
          simp [hy] at h3
        · rw [List.mem_append, List.mem_filter]
          constructor
          · rintro (h0 | ⟨h1, _⟩)
            · obtain ⟨a', h1, h2⟩ := (hs2 e).mp h0
              exact ⟨a', List.mem_append_left _ h1, h2⟩
            · exact ⟨a, by simp, (hes e).mp h1⟩
          · rintro ⟨a', h1, h2⟩
            rcases List.mem_append.mp h1 with h1 | h1
            · exact .inl ((hs2 e).mpr ⟨a', h1, h2⟩)
            · rw [List.mem_singleton] at h1
              subst h1
              by_cases h3 : e ∈ s2
              · exact .inl h3
              · exact .inr ⟨(hes e).mpr h2, by simp [h3]⟩
    · show e ∈ s2 ↔ _
      rw [hs2 e, Mt_snoc]
      constructor
      · rintro ⟨a, h1, h2, h3, h4⟩
        have h5 := (hs a).mp h1
        refine ⟨by omega, h3, (cl line).take a.toNat, _, take_mid (by omega), h5.2.2, h4⟩
      · rintro ⟨h1, h2, u, v, h3, h4, h5⟩
        have hlen := congrArg List.length h3
        rw [List.length_take, ll, List.length_append] at hlen
        have eu : u = (cl line).take u.length := by
          have h6 := congrArg (List.take u.length) h3
          rw [List.take_take, Nat.min_eq_left (by omega), List.take_left] at h6
          exact h6.symm
        have ev : v = ((cl line).drop u.length).take (e.toNat - u.length) := by
          have h6 := congrArg (List.drop u.length) h3
          rw [List.drop_take, List.drop_left] at h6
          exact h6.symm
        refine ⟨u.length, (hs _).mpr ⟨by omega, by omega, ?_⟩, by omega, h2, ?_⟩
        · rw [Int.toNat_natCast, ← eu]; exact h4
        · rw [Int.toNat_natCast, ← ev]; exact h5
  · by_cases hn : line = ""
    · rw [if_neg (by rw [decide_eq_true hn]; decide)]
      refine Ok.sm ?_
      rw [decide_eq_false (fun h => h.1 hn)]
    · rw [if_pos (by rw [decide_eq_false hn]; rfl)]
      refine Ok.bde (by rw [gd_true hf]) (Ok.sm ?_)
      have e1 : ((line.length : Int) ∈ s) ↔ Mt ps (cl line) := by
        rw [hs]
        rw [Int.toNat_natCast, ← ll, List.take_length]
        exact ⟨fun h => h.2.2, fun h => ⟨by omega, by omega, h⟩⟩
      by_cases hm : Mt ps (cl line)
      · rw [decide_eq_true (e1.mpr hm), decide_eq_true ⟨hn, hm⟩]
      · rw [decide_eq_false (fun h => hm (e1.mp h)), decide_eq_false (fun h => hm h.2)]

def cell (c : Str) : Prop := c = AN ∨ c = DG ∨ c = WD ∨ ∃ x, c = ⟨#[x]⟩ ∧ x ∈ cl SG
def Rp (cs : List Str) (w : List Nat) (p : Nat) : Prop := Mt (cs.take p) w
open Classical in
noncomputable def Sp (cs : List Str) (w : List Nat) (p : Nat) : Prop := if cs[p]? = some AN then Rp cs w (p + 1) else Rp cs w p
def Clo (cs : List Str) (F : Nat → Prop) : Nat → Prop
  | 0 => F 0
  | k + 1 => F (k + 1) ∨ (cs[k]? = some AN ∧ Clo cs F k)
theorem Clo_congr {cs : List Str} {F G : Nat → Prop} : ∀ {p : Nat}, (∀ q, q ≤ p → (F q ↔ G q)) → (Clo cs F p ↔ Clo cs G p)
  | 0, h => h 0 (Nat.le_refl _)
  | p + 1, h => by
    show (F (p + 1) ∨ _) ↔ (G (p + 1) ∨ _)
    rw [h (p + 1) (Nat.le_refl _), Clo_congr fun q hq => h q (Nat.le_succ_of_le hq)]
theorem Rp_succ {cs : List Str} {w : List Nat} {p : Nat} {c : Str} (h : cs[p]? = some c) : Rp cs w (p + 1) ↔ ∃ u v, w = u ++ v ∧ Rp cs u p ∧ Pc c v := by
  unfold Rp
  rw [List.take_succ, h]
  exact Mt_snoc
theorem Rp_zero {cs : List Str} {w : List Nat} : Rp cs w 0 ↔ w = [] := Iff.rfl
theorem Rp_any {cs : List Str} {w : List Nat} {x p : Nat} (h : cs[p]? = some AN) : Rp cs (w ++ [x]) (p + 1) ↔ Rp cs (w ++ [x]) p ∨ Rp cs w (p + 1) := by
  rw [Rp_succ h, Rp_succ h]
  constructor
  · rintro ⟨u, v, e, h1, _⟩
    rcases List.eq_nil_or_concat v with rfl | ⟨v', y, rfl⟩
    · rw [List.append_nil] at e; rw [e]; exact .inl h1
    · rw [List.concat_eq_append, ← List.append_assoc] at e
      obtain ⟨e1, _⟩ := List.append_inj' e rfl
      exact .inr ⟨u, v', e1, h1, Pc_any⟩
  · rintro (h1 | ⟨u, v, rfl, h1, _⟩)
    · exact ⟨_, [], by simp, h1, Pc_any⟩
    · exact ⟨u, v ++ [x], by simp, h1, Pc_any⟩
theorem Rp_le {cs : List Str} {w : List Nat} {p : Nat} (h : cs[p]? = some AN) (k : Rp cs w p) : Rp cs w (p + 1) := (Rp_succ h).mpr ⟨w, [], by simp, k, Pc_any⟩
theorem Rp_run {cs : List Str} {w : List Nat} {x p : Nat} {c : Str} (h : cs[p]? = some c) (hc : c = DG ∨ c = WD) : Rp cs (w ++ [x]) (p + 1) ↔ tk c ⟨#[x]⟩ = true ∧ (Rp cs w p ∨ Rp cs w (p + 1)) := by
  rw [Rp_succ h, Rp_succ h]
  constructor
  · rintro ⟨u, v, e, h1, h2⟩
    rw [Pc_run hc] at h2
    rcases List.eq_nil_or_concat v with rfl | ⟨v', y, rfl⟩
    · exact absurd rfl h2.1
    · rw [List.concat_eq_append] at e h2
      rw [← List.append_assoc] at e
      obtain ⟨e1, e2⟩ := List.append_inj' e rfl
      cases e2
      refine ⟨h2.2 x (by simp), ?_⟩
      by_cases hv : v' = []
      · subst hv; rw [List.append_nil] at e1; rw [e1]; exact .inl h1
      · exact .inr ⟨u, v', e1, h1, (Pc_run hc).mpr ⟨hv, fun z hz => h2.2 z (by simp [hz])⟩⟩
  · rintro ⟨ht, h1 | ⟨u, v, rfl, h1, h2⟩⟩
    · exact ⟨w, [x], rfl, h1, (Pc_run hc).mpr ⟨by simp, fun z hz => by rw [List.mem_singleton] at hz; rw [hz]; exact ht⟩⟩
    · rw [Pc_run hc] at h2
      exact ⟨u, v ++ [x], by simp, h1, (Pc_run hc).mpr ⟨by simp, fun z hz => by
        rcases List.mem_append.mp hz with hz | hz
        · exact h2.2 z hz
        · rw [List.mem_singleton] at hz; rw [hz]; exact ht⟩⟩
theorem sg_ne {y : Nat} : ¬ (⟨#[y]⟩ : Str) = AN ∧ ¬ ((⟨#[y]⟩ : Str) = DG ∨ (⟨#[y]⟩ : Str) = WD) := by
  have h : ∀ z : Str, (⟨#[y]⟩ : Str) = z → z.length = 1 := fun z e => by rw [← e]; rfl
  have h1 : ¬ AN.length = 1 := by decide +kernel
  have h2 : ¬ DG.length = 1 := by decide +kernel
  have h3 : ¬ WD.length = 1 := by decide +kernel
  exact ⟨fun e => h1 (h _ e), fun e => e.elim (fun e => h2 (h _ e)) fun e => h3 (h _ e)⟩
theorem Rp_fix {cs : List Str} {w : List Nat} {x y p : Nat} (h : cs[p]? = some ⟨#[y]⟩) : Rp cs (w ++ [x]) (p + 1) ↔ tk ⟨#[y]⟩ ⟨#[x]⟩ = true ∧ Rp cs w p := by
  obtain ⟨n1, n2⟩ := sg_ne (y := y)
  rw [Rp_succ h]
  have ht : tk ⟨#[y]⟩ ⟨#[x]⟩ = true ↔ y = x := by
    unfold tk
    rw [if_neg n1, if_neg fun e => n2 (.inl e), if_neg fun e => n2 (.inr e), decide_eq_true_eq]
    constructor
    · intro e; cases e; rfl
    · rintro rfl; rfl
  rw [ht]
  constructor
  · rintro ⟨u, v, e, h1, h2⟩
    rw [Pc_fix n1 n2, cl_sg] at h2
    subst h2
    obtain ⟨e1, e2⟩ := List.append_inj' e rfl
    cases e2
    exact ⟨rfl, e1 ▸ h1⟩
  · rintro ⟨rfl, h1⟩
    exact ⟨w, [y], rfl, h1, (Pc_fix n1 n2).mpr rfl⟩
def Fd (cs : List Str) (S : Nat → Prop) (x : Nat) (q : Nat) : Prop :=
  (∃ a c, S a ∧ cs[a]? = some c ∧ tk c ⟨#[x]⟩ = true ∧ q = if c = AN then a else a + 1) ∨ (S q ∧ 0 < q ∧ ∃ c, cs[q - 1]? = some c ∧ (c = DG ∨ c = WD) ∧ tk c ⟨#[x]⟩ = true)
theorem tk_any {x : Str} : tk AN x = true := by unfold tk; rw [if_pos rfl]
theorem Sp_any {cs : List Str} {w : List Nat} {p : Nat} (h : cs[p]? = some AN) : Sp cs w p ↔ Rp cs w (p + 1) := by unfold Sp; rw [if_pos h]
theorem Sp_no {cs : List Str} {w : List Nat} {p : Nat} (h : ¬ cs[p]? = some AN) : Sp cs w p ↔ Rp cs w p := by unfold Sp; rw [if_neg h]
theorem Sp_of {cs : List Str} {w : List Nat} {p : Nat} (h : Rp cs w p) : Sp cs w p := by
  by_cases e : cs[p]? = some AN
  · exact (Sp_any e).mpr (Rp_le e h)
  · exact (Sp_no e).mpr h
theorem step_iff {cs : List Str} (hc : ∀ c ∈ cs, cell c) {w : List Nat} {x : Nat} : ∀ p : Nat, p ≤ cs.length → (Clo cs (Fd cs (Sp cs w) x) p ↔ Sp cs (w ++ [x]) p) := by
  -- what the cell ahead gives
  have back : ∀ p : Nat, p + 1 ≤ cs.length → ∀ c, cs[p]? = some c → ¬ c = AN → (Fd cs (Sp cs w) x (p + 1) → Sp cs (w ++ [x]) (p + 1)) ∧ (Rp cs (w ++ [x]) (p + 1) → Fd cs (Sp cs w) x (p + 1)) := by
    intro p hp c h hn
    have hns : ¬ cs[p]? = some AN := by rw [h]; exact fun e => hn (Option.some.inj e)
    have hcell := hc c (List.mem_of_getElem? h)
    have rfix : c = DG ∨ c = WD ∨ ∃ y, c = ⟨#[y]⟩ := by
      rcases hcell with e | e | e | ⟨y, e, _⟩
      · exact absurd e hn
      · exact .inl e
      · exact .inr (.inl e)
      · exact .inr (.inr ⟨y, e⟩)
    constructor
    · rintro (⟨a, d, h1, h2, h3, h4⟩ | ⟨h1, _, d, h2, h3, h4⟩)
      · by_cases hd : d = AN
        · subst hd
          rw [if_pos rfl] at h4
          subst h4
          rw [Sp_any h2] at h1 ⊢
          exact (Rp_any h2).mpr (.inr h1)
        · rw [if_neg hd] at h4
          have e : a = p := by omega
          subst e
          rw [h] at h2
          cases h2
          rw [Sp_no hns] at h1
          refine Sp_of ?_
          rcases rfix with e | e | ⟨y, e⟩
          · exact (Rp_run h (.inl e)).mpr ⟨h3, .inl h1⟩
          · exact (Rp_run h (.inr e)).mpr ⟨h3, .inl h1⟩
          · subst e; exact (Rp_fix h).mpr ⟨h3, h1⟩
      · rw [Nat.add_sub_cancel, h] at h2
        cases h2
        by_cases e : cs[p + 1]? = some AN
        · rw [Sp_any e] at h1 ⊢
          exact (Rp_any e).mpr (.inr h1)
        · rw [Sp_no e] at h1 ⊢
          exact (Rp_run h h3).mpr ⟨h4, .inr h1⟩
    · intro h1
      rcases rfix with e | e | ⟨y, e⟩
      · obtain ⟨h2, h3 | h3⟩ := (Rp_run h (.inl e)).mp h1
        · exact .inl ⟨p, c, Sp_of h3, h, h2, by rw [if_neg hn]⟩
        · exact .inr ⟨Sp_of h3, Nat.succ_pos _, c, by rw [Nat.add_sub_cancel]; exact h, .inl e, h2⟩
      · obtain ⟨h2, h3 | h3⟩ := (Rp_run h (.inr e)).mp h1
        · exact .inl ⟨p, c, Sp_of h3, h, h2, by rw [if_neg hn]⟩
        · exact .inr ⟨Sp_of h3, Nat.succ_pos _, c, by rw [Nat.add_sub_cancel]; exact h, .inr e, h2⟩
      · subst e
        obtain ⟨h2, h3⟩ := (Rp_fix h).mp h1
        exact .inl ⟨p, _, Sp_of h3, h, h2, by rw [if_neg hn]⟩
  -- a cell for any signs that stays
  have stay : ∀ p, Fd cs (Sp cs w) x p → cs[p]? = some AN → (∃ p', p = p' + 1 ∧ cs[p']? = some AN) ∨ p = 0 → Sp cs (w ++ [x]) p := by
    rintro p (⟨a, d, h1, h2, h3, h4⟩ | ⟨h1, h0, d, h2, h3, h4⟩) hp hb
    · by_cases hd : d = AN
      · subst hd
        rw [if_pos rfl] at h4
        subst h4
        rw [Sp_any h2] at h1 ⊢
        exact (Rp_any h2).mpr (.inr h1)
      · rw [if_neg hd] at h4
        rcases hb with ⟨p', e1, e2⟩ | e
        · have : a = p' := by omega
          subst this
          rw [h2] at e2
          exact absurd (Option.some.inj e2) hd
        · omega
    · rw [Sp_any hp] at h1 ⊢
      exact (Rp_any hp).mpr (.inr h1)
  have stay2 : ∀ p, cs[p]? = some AN → Rp cs w (p + 1) → Fd cs (Sp cs w) x p := fun p h1 h2 => .inl ⟨p, AN, (Sp_any h1).mpr h2, h1, tk_any, by rw [if_pos rfl]⟩
  intro p
  induction p with
  | zero =>
    intro _
    show Fd cs (Sp cs w) x 0 ↔ _
    have nz : ¬ Rp cs (w ++ [x]) 0 := by rw [Rp_zero]; simp
    by_cases e : cs[0]? = some AN
    · rw [Sp_any e, Rp_any e]
      exact ⟨fun h => (Rp_any e).mp ((Sp_any e).mp (stay 0 h e (.inr rfl))), fun h => stay2 0 e (h.elim (fun h => absurd h nz) id)⟩
    · rw [Sp_no e]
      refine ⟨fun h => ?_, fun h => absurd h nz⟩
      rcases h with ⟨a, d, h1, h2, h3, h4⟩ | ⟨_, h0, _⟩
      · by_cases hd : d = AN
        · subst hd
          rw [if_pos rfl] at h4
          subst h4
          exact absurd h2 e
        · rw [if_neg hd] at h4; omega
      · omega
  | succ p ih =>
    intro hp
    have ih := ih (by omega)
    show (Fd cs (Sp cs w) x (p + 1) ∨ (cs[p]? = some AN ∧ Clo cs (Fd cs (Sp cs w) x) p)) ↔ _
    rw [ih]
    have hlt : p < cs.length := by omega
    obtain ⟨c, hcp⟩ : ∃ c, cs[p]? = some c := ⟨cs[p], List.getElem?_eq_getElem hlt⟩
    by_cases e : cs[p]? = some AN
    · -- the cell ahead is for any signs
      constructor
      · rintro (h | ⟨_, h⟩)
        · by_cases e1 : cs[p + 1]? = some AN
          · exact stay (p + 1) h e1 (.inl ⟨p, rfl, e⟩)
          · rcases h with ⟨a, d, h1, h2, h3, h4⟩ | ⟨_, _, d, h2, h3, _⟩
            · by_cases hd : d = AN
              · subst hd
                rw [if_pos rfl] at h4
                subst h4
                exact absurd h2 e1
              · rw [if_neg hd] at h4
                have : a = p := by omega
                subst this
                rw [h2] at e
                exact absurd (Option.some.inj e) hd
            · rw [Nat.add_sub_cancel, e] at h2
              cases h2
              rcases h3 with h3 | h3
              · exact absurd h3.symm AN_ne.1
              · exact absurd h3.symm AN_ne.2.1
        · rw [Sp_any e] at h
          exact Sp_of h
      · intro h
        by_cases e1 : cs[p + 1]? = some AN
        · rw [Sp_any e1, Rp_any e1] at h
          rcases h with h | h
          · exact .inr ⟨e, (Sp_any e).mpr h⟩
          · exact .inl (stay2 _ e1 h)
        · rw [Sp_no e1] at h
          exact .inr ⟨e, (Sp_any e).mpr h⟩
    · have hn : ¬ c = AN := fun z => e (by rw [hcp, z])
      obtain ⟨b1, b2⟩ := back p hp c hcp hn
      constructor
      · rintro (h | ⟨h, _⟩)
        · exact b1 h
        · exact absurd h e
      · intro h
        by_cases e1 : cs[p + 1]? = some AN
        · rw [Sp_any e1, Rp_any e1] at h
          rcases h with h | h
          · exact .inl (b2 h)
          · exact .inl (stay2 _ e1 h)
        · rw [Sp_no e1] at h
          exact .inl (b2 h)
theorem start_iff {cs : List Str} (hc : ∀ c ∈ cs, cell c) : ∀ p : Nat, p ≤ cs.length → (Clo cs (fun q => q = 0) p ↔ Sp cs [] p) := by
  have nil : ∀ p c, cs[p]? = some c → (Rp cs [] (p + 1) ↔ c = AN ∧ Rp cs [] p) := by
    intro p c h
    rw [Rp_succ h]
    constructor
    · rintro ⟨u, v, e, h1, h2⟩
      obtain ⟨rfl, rfl⟩ := List.append_eq_nil_iff.mp e.symm
      refine ⟨?_, h1⟩
      rcases hc c (List.mem_of_getElem? h) with e | e | e | ⟨y, e, _⟩
      · exact e
      · exact absurd rfl ((Pc_run (.inl e)).mp h2).1
      · exact absurd rfl ((Pc_run (.inr e)).mp h2).1
      · subst e
        have := (Pc_fix sg_ne.1 sg_ne.2).mp h2
        cases this
    · rintro ⟨rfl, h1⟩
      exact ⟨[], [], rfl, h1, Pc_any⟩
  have sp : ∀ p, Sp cs [] p ↔ Rp cs [] p := by
    intro p
    by_cases e : cs[p]? = some AN
    · rw [Sp_any e, nil p AN e]; exact ⟨fun h => h.2, fun h => ⟨rfl, h⟩⟩
    · rw [Sp_no e]
  intro p
  induction p with
  | zero => intro _; rw [sp]; show (0 = 0) ↔ ([] : List Nat) = []; simp
  | succ p ih =>
    intro hp
    rw [sp]
    have hlt : p < cs.length := by omega
    have hcp : cs[p]? = some cs[p] := List.getElem?_eq_getElem hlt
    show (p + 1 = 0 ∨ (cs[p]? = some AN ∧ Clo cs _ p)) ↔ _
    rw [ih (by omega), sp, nil p _ hcp, hcp]
    constructor
    · rintro (h | ⟨h, h2⟩)
      · omega
      · exact ⟨Option.some.inj h, h2⟩
    · rintro ⟨h, h2⟩
      exact .inr ⟨by rw [h], h2⟩
open Classical in
noncomputable def told (cs : List Str) (F : Nat → Prop) : List Int := (rng 0 ((cs.length : Int) + 1)).filter fun i => decide (F i.toNat)
open Classical in
theorem told_congr {cs : List Str} {F G : Nat → Prop} (h : ∀ p, p ≤ cs.length → (F p ↔ G p)) : told cs F = told cs G := by
  unfold told
  refine List.filter_congr fun i hi => ?_
  rw [rng_mem] at hi
  by_cases e : F i.toNat
  · rw [decide_eq_true e, decide_eq_true ((h _ (by omega)).mp e)]
  · rw [decide_eq_false e, decide_eq_false fun z => e ((h _ (by omega)).mpr z)]
open Classical in
theorem told_mem {cs : List Str} {F : Nat → Prop} {i : Int} : i ∈ told cs F ↔ 0 ≤ i ∧ i ≤ cs.length ∧ F i.toNat := by
  unfold told
  rw [List.mem_filter, rng_mem, decide_eq_true_eq]
  constructor
  · intro h; exact ⟨by omega, by omega, h.2⟩
  · intro h; exact ⟨by omega, h.2.2⟩
theorem told_len {cs : List Str} {F : Nat → Prop} : (told cs F).length ≤ cs.length + 1 := by
  unfold told
  refine Nat.le_trans (List.length_filter_le _ _) ?_
  rw [rng_len]; omega
theorem filter_len {α : Type} (p : α → Bool) (xs : List α) : (xs.filter p).length ≤ xs.length := List.length_filter_le _ _
open Classical in
theorem closed_eq {cs : List Str} {ps : List Int} (hl : cs.length ≤ 500) : m_closed cs ps = some (told cs (Clo cs fun q => (q : Int) ∈ ps)) := by
  unfold m_closed
  rw [gd_true (rgOk_ok (by omega) (by omega) (by omega) (by omega))]
  refine Ok.eq (Ok.bde (loop_pick (fun i => @decide (Clo cs (fun q => (q : Int) ∈ ps) i.toNat) (Classical.propDecidable _)) fun pre x post e => ?_) (Ok.sm rfl))
  obtain ⟨e1, e2, e3, e4⟩ := rng_at e
  have hx : x.toNat = pre.length := by omega
  have hpl : pre.length ≤ 501 := by omega
  unfold m_closed_b1
  refine Ok.eq (Ok.bd (P := fun t => t = @decide (Clo cs (fun q => (q : Int) ∈ ps) x.toNat) (Classical.propDecidable _)) ?_ fun t ht => ?_)
  · by_cases hm : x ∈ ps
    · rw [ite_ya hm]
      refine Ok.sm ?_
      symm
      apply decide_eq_true
      cases hq : x.toNat with
      | zero =>
        show ((0 : Nat) : Int) ∈ ps
        have : x = ((0 : Nat) : Int) := by omega
        rw [← this]; exact hm
      | succ k =>
        refine .inl ?_
        show ((k + 1 : Nat) : Int) ∈ ps
        have : x = ((k + 1 : Nat) : Int) := by omega
        rw [← this]; exact hm
    · rw [ite_no hm]
      by_cases h0 : 0 < x
      · rw [ite_ya h0]
        obtain ⟨k, hk⟩ : ∃ k : Nat, x = ((k + 1 : Nat) : Int) := ⟨x.toNat - 1, by omega⟩
        have hk2 : x.toNat = k + 1 := by omega
        have hk1 : (x - 1).toNat = k := by omega
        have hlt : k < cs.length := by omega
        have hat : atI cs (x - 1) = some cs[k] := by
          rw [atI_nn (by omega) (by omega), hk1]; exact List.getElem?_eq_getElem hlt
        rw [hat]
        refine Ok.sm ?_
        show (decide (cs[k] = AN) && decide (x - 1 ∈ pre.filter _)) = _
        rw [← Bool.decide_and]
        have key : (cs[k] = AN ∧ x - 1 ∈ pre.filter fun i => @decide (Clo cs (fun q => (q : Int) ∈ ps) i.toNat) (Classical.propDecidable _)) ↔ Clo cs (fun q => (q : Int) ∈ ps) x.toNat := by
          rw [hk2]
          show _ ↔ (((k + 1 : Nat) : Int) ∈ ps ∨ (cs[k]? = some AN ∧ Clo cs _ k))
          rw [List.mem_filter, e2, rng_mem, decide_eq_true_eq, hk1, List.getElem?_eq_getElem hlt]
          constructor
          · rintro ⟨h1, _, h2⟩; exact .inr ⟨by rw [h1], h2⟩
          · rintro (h | ⟨h1, h2⟩)
            · exact absurd (by rw [hk]; exact h) hm
            · exact ⟨Option.some.inj h1, ⟨by omega, by omega⟩, h2⟩
        by_cases hz : Clo cs (fun q => (q : Int) ∈ ps) x.toNat
        · rw [decide_eq_true (key.mpr hz)]; exact (decide_eq_true hz).symm
        · rw [decide_eq_false fun z => hz (key.mp z)]; exact (decide_eq_false hz).symm
      · rw [ite_no h0]
        refine Ok.sm ?_
        symm
        apply decide_eq_false
        have : x.toNat = 0 := by omega
        rw [this]
        show ¬ ((0 : Nat) : Int) ∈ ps
        have : x = ((0 : Nat) : Int) := by omega
        rw [← this]; exact hm
  · rw [ht]
    refine Ok.ite (fun h => ?_) fun h => ?_
    · refine Ok.gd (fits_ok (Nat.lt_of_le_of_lt (filter_len _ _) (by omega))) (Ok.sm ?_)
      rw [if_pos h]
    · refine Ok.sm ?_
      rw [if_neg (by rw [h]; decide)]
theorem started_eq {cs : List Str} (hc : ∀ c ∈ cs, cell c) (hl : cs.length ≤ 500) : m_started cs = some (told cs (Sp cs [])) := by
  unfold m_started
  refine Ok.eq (Ok.bde (closed_eq hl) (Ok.sm ?_))
  refine told_congr fun p hp => ?_
  rw [← start_iff hc p hp]
  refine Clo_congr fun q _ => ?_
  rw [List.mem_singleton]; omega
theorem moved_eq {cs : List Str} (hc : ∀ c ∈ cs, cell c) (hl : cs.length ≤ 500) {w : List Nat} {x : Nat} : m_moved cs (told cs (Sp cs w)) ⟨#[x]⟩ = some (told cs (Sp cs (w ++ [x]))) := by
  unfold m_moved
  refine Ok.eq (Ok.bd (P := fun r : List Int => ∀ q : Nat, ((q : Int) ∈ r ↔ Fd cs (Sp cs w) x q)) ?_ fun r hr => Ok.bde (closed_eq hl) (Ok.sm ?_))
  · let G : Int → Nat → Prop := fun a q => (∃ c, cs[a.toNat]? = some c ∧ tk c ⟨#[x]⟩ = true ∧ q = if c = AN then a.toNat else a.toNat + 1) ∨ (q = a.toNat ∧ 0 < q ∧ ∃ c, cs[q - 1]? = some c ∧ (c = DG ∨ c = WD) ∧ tk c ⟨#[x]⟩ = true)
    refine (Ok.loop (fun pre (s : List Int) => s.length ≤ 2 * pre.length ∧ (∀ q : Nat, (q : Int) ∈ s ↔ ∃ a ∈ pre, G a q)) ⟨Nat.le_refl _, fun q => ?_⟩ fun pre a post s e ⟨hlen, hs⟩ => ?_).mono fun r ⟨_, hr⟩ q => ?_
    · constructor
      · intro h; cases h
      · rintro ⟨a, h, _⟩; cases h
    · have ha : a ∈ told cs (Sp cs w) := by rw [e]; simp
      obtain ⟨a0, a1, _⟩ := told_mem.mp ha
      have hpl : pre.length ≤ 501 := by
        have := congrArg List.length e
        have h2 := told_len (cs := cs) (F := Sp cs w)
        rw [List.length_append] at this
        omega
      unfold m_moved_b1
      -- the first: on
      refine Ok.bd (P := fun t : List Int => t.length ≤ s.length + 1 ∧ ∀ q : Nat, (q : Int) ∈ t ↔ (q : Int) ∈ s ∨ ∃ c, cs[a.toNat]? = some c ∧ tk c ⟨#[x]⟩ = true ∧ q = if c = AN then a.toNat else a.toNat + 1) ?_ fun t ⟨tl, ht⟩ => ?_
      · by_cases hlt : a < (cs.length : Int)
        · have hlt2 : a.toNat < cs.length := by omega
          have hat : atI cs a = some cs[a.toNat] := by rw [atI_nn a0 hlt]; exact List.getElem?_eq_getElem hlt2
          rw [ite_ya hlt, hat]
          show Ok (((((m_takes cs[a.toNat] ⟨#[x]⟩).bind fun t65 => some t65)).bind fun t55 => _)) _
          rw [takes_eq]
          show Ok (if tk cs[a.toNat] ⟨#[x]⟩ = true then _ else _) _
          refine Ok.ite (fun h => ?_) fun h => ?_
          · show Ok ((some cs[a.toNat]).bind _) _
            show Ok ((if decide (cs[a.toNat] = AN) = true then some a else some (a + 1)).bind _) _
            by_cases hA : cs[a.toNat] = AN
            · rw [ite_ya hA]
              refine Ok.gd (fits_ok (by omega)) (Ok.sm ⟨by simp, fun q => ?_⟩)
              show (q : Int) ∈ s ++ [a] ↔ _
              rw [List.mem_append, List.mem_singleton]
              refine or_congr Iff.rfl ⟨fun h2 => ⟨_, List.getElem?_eq_getElem hlt2, h, by rw [if_pos hA]; omega⟩, ?_⟩
              rintro ⟨c, h2, _, h3⟩
              rw [List.getElem?_eq_getElem hlt2] at h2
              cases h2
              rw [if_pos hA] at h3
              omega
            · rw [ite_no hA]
              refine Ok.gd (fits_ok (by omega)) (Ok.sm ⟨by simp, fun q => ?_⟩)
              show (q : Int) ∈ s ++ [a + 1] ↔ _
              rw [List.mem_append, List.mem_singleton]
              refine or_congr Iff.rfl ⟨fun h2 => ⟨_, List.getElem?_eq_getElem hlt2, h, by rw [if_neg hA]; omega⟩, ?_⟩
              rintro ⟨c, h2, _, h3⟩
              rw [List.getElem?_eq_getElem hlt2] at h2
              cases h2
              rw [if_neg hA] at h3
              omega
          · refine Ok.sm ⟨by omega, fun q => ⟨fun h2 => .inl h2, ?_⟩⟩
            rintro (h2 | ⟨c, h2, h3, _⟩)
            · exact h2
            · rw [List.getElem?_eq_getElem hlt2] at h2
              cases h2
              rw [h] at h3
              cases h3
        · rw [ite_no hlt]
          refine Ok.bde rfl (Ok.ite (fun h => absurd h (by decide)) fun _ => Ok.sm ⟨by omega, fun q => ⟨fun h2 => .inl h2, ?_⟩⟩)
          rintro (h2 | ⟨c, h2, h3, _⟩)
          · exact h2
          · rw [List.getElem?_eq_none (by omega)] at h2
            cases h2
      -- the second: it stays
      · have fin : ∀ z : List Int, (z.length ≤ t.length + 1 ∧ ∀ q : Nat, (q : Int) ∈ z ↔ (q : Int) ∈ t ∨ (q = a.toNat ∧ 0 < q ∧ ∃ c, cs[q - 1]? = some c ∧ (c = DG ∨ c = WD) ∧ tk c ⟨#[x]⟩ = true)) → z.length ≤ 2 * (pre ++ [a]).length ∧ ∀ q : Nat, (q : Int) ∈ z ↔ ∃ a' ∈ pre ++ [a], G a' q := by
          rintro z ⟨zl, hz⟩
          refine ⟨by simp; omega, fun q => ?_⟩
          rw [hz q, ht q, hs q]
          constructor
          · rintro ((⟨a', h1, h2⟩ | h) | h)
            · exact ⟨a', List.mem_append_left _ h1, h2⟩
            · exact ⟨a, by simp, .inl h⟩
            · exact ⟨a, by simp, .inr h⟩
          · rintro ⟨a', h1, h2⟩
            rcases List.mem_append.mp h1 with h1 | h1
            · exact .inl (.inl ⟨a', h1, h2⟩)
            · rw [List.mem_singleton] at h1
              subst h1
              rcases h2 with h2 | h2
              · exact .inl (.inr h2)
              · exact .inr h2
        refine Ok.mono ?_ fin
        by_cases h0 : 0 < a
        · have hlt2 : a.toNat - 1 < cs.length := by omega
          have hat : atI cs (a - 1) = some cs[a.toNat - 1] := by
            rw [atI_nn (by omega) (by omega), show (a - 1).toNat = a.toNat - 1 by omega]; exact List.getElem?_eq_getElem hlt2
          rw [ite_ya h0, hat]
          show Ok (((((if decide (cs[a.toNat - 1] ∈ [("<digits>" : Str), ("<word>" : Str)]) = true then _ else some false).bind _)).bind _)) _
          by_cases hm : cs[a.toNat - 1] ∈ [("<digits>" : Str), ("<word>" : Str)]
          · have hd : cs[a.toNat - 1] = DG ∨ cs[a.toNat - 1] = WD := by
              rcases List.mem_cons.mp hm with h | h
              · exact .inl h
              · exact .inr (List.mem_singleton.mp h)
            rw [ite_ya hm]
            show Ok (((((m_takes cs[a.toNat - 1] ⟨#[x]⟩).bind fun t201 => some t201).bind fun t191 => some t191)).bind fun t163 => if t163 = true then _ else _) _
            rw [takes_eq]
            show Ok (if tk cs[a.toNat - 1] ⟨#[x]⟩ = true then _ else _) _
            refine Ok.ite (fun h => ?_) fun h => ?_
            · refine Ok.gd (fits_ok (by omega)) (Ok.sm ⟨by simp, fun q => ?_⟩)
              rw [List.mem_append, List.mem_singleton]
              refine or_congr Iff.rfl ⟨fun h2 => ?_, fun h2 => by omega⟩
              have hq : q = a.toNat := by omega
              exact ⟨hq, by omega, _, by rw [hq]; exact List.getElem?_eq_getElem hlt2, hd, h⟩
            · refine Ok.sm ⟨by omega, fun q => ⟨fun h2 => .inl h2, ?_⟩⟩
              rintro (h2 | ⟨h2, _, c, h3, _, h4⟩)
              · exact h2
              · rw [h2, List.getElem?_eq_getElem hlt2] at h3
                cases h3
                rw [h] at h4
                cases h4
          · rw [ite_no hm]
            refine Ok.sm ⟨by omega, fun q => ⟨fun h2 => .inl h2, ?_⟩⟩
            rintro (h2 | ⟨h2, _, c, h3, h4, _⟩)
            · exact h2
            · rw [h2, List.getElem?_eq_getElem hlt2] at h3
              cases h3
              rcases h4 with h4 | h4
              · exact absurd (by rw [h4]; exact List.mem_cons_self) hm
              · exact absurd (by rw [h4]; exact List.mem_cons_of_mem _ List.mem_cons_self) hm
        · rw [ite_no h0]
          refine Ok.sm ⟨by omega, fun q => ⟨fun h2 => .inl h2, ?_⟩⟩
          rintro (h2 | ⟨h2, h3, _⟩)
          · exact h2
          · omega
    · rw [hr q]
      constructor
      · rintro ⟨a, h1, h2⟩
        obtain ⟨h3, h4, h5⟩ := told_mem.mp h1
        rcases h2 with ⟨c, h6, h7, h8⟩ | ⟨h6, h7⟩
        · exact .inl ⟨a.toNat, c, h5, h6, h7, h8⟩
        · exact .inr ⟨by rw [h6]; exact h5, h7⟩
      · rintro (⟨a, c, h1, h2, h3, h4⟩ | ⟨h1, h2, c, h3, h4⟩)
        · have hlt : a < cs.length := by
            apply Classical.byContradiction
            intro h5
            rw [List.getElem?_eq_none (by omega)] at h2
            cases h2
          exact ⟨(a : Int), told_mem.mpr ⟨by omega, by omega, by rw [Int.toNat_natCast]; exact h1⟩, .inl ⟨c, by rw [Int.toNat_natCast]; exact h2, h3, by rw [Int.toNat_natCast]; exact h4⟩⟩
        · have hlt : q - 1 < cs.length := by
            apply Classical.byContradiction
            intro h5
            rw [List.getElem?_eq_none (by omega)] at h3
            cases h3
          exact ⟨(q : Int), told_mem.mpr ⟨by omega, by omega, by rw [Int.toNat_natCast]; exact h1⟩, .inr ⟨by rw [Int.toNat_natCast], h2, c, h3, h4⟩⟩
  · refine told_congr fun p hp => ?_
    rw [← step_iff hc p hp]
    exact Clo_congr fun q _ => hr q

def cellsT (ps : List Str) : List Str := ps.flatMap fun p => if p ∈ ([DG, WD, AN] : List Str) then [p] else sgns p
theorem sgns_len (z : Str) : (sgns z).length = z.length := by rw [sgns_cl, List.length_map, ← cl_len]
theorem cellsT_snoc (ps : List Str) (p : Str) : cellsT (ps ++ [p]) = cellsT ps ++ if p ∈ ([DG, WD, AN] : List Str) then [p] else sgns p := by
  unfold cellsT; rw [List.flatMap_append]; simp
theorem cellsT_len {ps : List Str} (h : ∀ p ∈ ps, part p) : (cellsT ps).length ≤ 8 * ps.length := by
  induction ps with
  | nil => exact Nat.le_refl _
  | cons p ps ih =>
    have ih := ih fun q hq => h q (List.mem_cons_of_mem _ hq)
    show ((if p ∈ ([DG, WD, AN] : List Str) then [p] else sgns p) ++ cellsT ps).length ≤ _
    rw [List.length_append, List.length_cons]
    have : (if p ∈ ([DG, WD, AN] : List Str) then [p] else sgns p).length ≤ 8 := by
      split
      · simp
      · rw [sgns_len]; exact (part_len (h p List.mem_cons_self)).2
    omega
theorem cellsT_cell {ps : List Str} (h : ∀ p ∈ ps, part p) : ∀ c ∈ cellsT ps, cell c := by
  intro c hc
  obtain ⟨p, hp, h2⟩ := List.mem_flatMap.mp hc
  split at h2
  · rename_i hf
    rw [List.mem_singleton] at h2
    subst h2
    rcases List.mem_cons.mp hf with e | hf
    · exact .inr (.inl e)
    · rcases List.mem_cons.mp hf with e | hf
      · exact .inr (.inr (.inl e))
      · exact .inl (List.mem_singleton.mp hf)
  · rename_i hf
    rcases h p hp with e | e | e | ⟨g, _⟩
    · exact absurd (by rw [e]; simp) hf
    · exact absurd (by rw [e]; simp) hf
    · exact absurd (by rw [e]; simp) hf
    · rw [sgns_cl, List.mem_map] at h2
      obtain ⟨y, hy, rfl⟩ := h2
      exact .inr (.inr (.inr ⟨y, rfl, g y hy⟩))
theorem cells_of_eq {ps : List Str} (h : ∀ p ∈ ps, part p) (hl : ps.length ≤ 50) : m_cells_of ps = some (cellsT ps) := by
  unfold m_cells_of
  refine Ok.eq (Ok.bd (Ok.loop (fun pre s => s = cellsT pre) rfl fun pre x post s e hs => ?_) fun s hs => Ok.sm hs)
  have hp : ∀ p ∈ pre, part p := fun p hp => h p (by rw [e]; exact List.mem_append_left _ hp)
  have hx : part x := h x (by rw [e]; simp)
  have l1 := cellsT_len hp
  have l2 := congrArg List.length e
  rw [List.length_append] at l2
  have l3 := part_len hx
  subst hs
  unfold m_cells_of_b1
  by_cases hf : x ∈ ([DG, WD, AN] : List Str)
  · rw [ite_ya hf]
    exact Ok.gd (fits_ok (by omega)) (Ok.sm (by rw [cellsT_snoc, if_pos hf]))
  · rw [ite_no hf]
    exact Ok.gd (fitsS_ok (by omega)) (Ok.gd (fits2_ok (by rw [sgns_len]; omega)) (Ok.sm (by rw [cellsT_snoc, if_neg hf])))

theorem inS_one (x : Str) (c : Nat) : inS ⟨#[c]⟩ x = decide (c ∈ cl x) := StrLaws.found_one x c
def isL (z : Str) : Bool := !decide (z = "") && (sgns z).all fun x => inS x SG
theorem line_loop : ∀ xs : List Str, loopC m_is_line_b1 xs () = some (if (xs.all fun x => inS x SG) = true then .nx () else .rt false)
  | [] => rfl
  | x :: xs => by
    show ((m_is_line_b1 x ()).bind _) = _
    unfold m_is_line_b1
    rw [List.all_cons]
    cases h : inS x SG with
    | false => rfl
    | true =>
      show loopC m_is_line_b1 xs () = _
      rw [line_loop xs]; rfl
theorem is_line_str (z : Str) : m_is_line (Th.d (PyData.str z)) = some (isL z) := by
  unfold m_is_line isL
  show ((if decide (z = "") = true then some false else ((loopC m_is_line_b1 (sgns z) ()).bind fun t23 => aft t23 fun s46 => some true))) = _
  rw [line_loop]
  by_cases h : z = ""
  · rw [if_pos (decide_eq_true h), decide_eq_true h]; rfl
  · rw [if_neg (by rw [decide_eq_false h]; decide), decide_eq_false h]
    cases (sgns z).all fun x => inS x SG <;> rfl
theorem isL_gs {z : Str} (g : gs z) (h : 1 ≤ z.length) : isL z = true := by
  have hn : ¬ z = "" := fun e => by
    have : z.length = 0 := by rw [e]; decide +kernel
    omega
  unfold isL
  rw [decide_eq_false hn]
  show ((sgns z).all fun x => inS x SG) = true
  rw [List.all_eq_true]
  intro x hx
  rw [sgns_cl, List.mem_map] at hx
  obtain ⟨c, hc, rfl⟩ := hx
  rw [inS_one]
  exact decide_eq_true (g c hc)

def fr (t : Str) : Prop := t = AN ∨ t = DG ∨ t = WD
theorem fr_mem {t : Str} : t ∈ ([DG, WD, AN] : List Str) ↔ fr t := by
  unfold fr
  simp only [List.mem_cons, List.not_mem_nil, or_false]
  constructor
  · rintro (h | h | h)
    · exact .inr (.inl h)
    · exact .inr (.inr h)
    · exact .inl h
  · rintro (h | h | h)
    · exact .inr (.inr h)
    · exact .inl h
    · exact .inr (.inl h)
theorem fr_mem2 {t : Str} : t ∈ ([AN, DG, WD] : List Str) ↔ fr t := by
  unfold fr
  simp only [List.mem_cons, List.not_mem_nil, or_false]
def okAt (ps : List Str) (k : Nat) (s : Str) : Prop := (s = AN ∧ AN ∉ ps.take k) ∨ s = DG ∨ s = WD ∨ (gs s ∧ 1 ≤ s.length ∧ s.length ≤ 4 ∧ ∀ t, 0 < k → ps[k - 1]? = some t → fr t)
def alw (ps : List Str) : Prop := ∀ k s, ps[k]? = some s → okAt ps k s
theorem alw_part {ps : List Str} (h : alw ps) : ∀ s ∈ ps, part s := by
  intro s hs
  obtain ⟨k, hk⟩ := List.getElem?_of_mem hs
  rcases h k s hk with ⟨e, _⟩ | e | e | ⟨g, l, l2, _⟩
  · exact .inl e
  · exact .inr (.inl e)
  · exact .inr (.inr (.inl e))
  · exact .inr (.inr (.inr ⟨g, l, l2⟩))
theorem okAt_app {ps : List Str} {k : Nat} {s z : Str} (h : k ≤ ps.length) (o : okAt ps k s) : okAt (ps ++ [z]) k s := by
  rcases o with ⟨e, n⟩ | e | e | ⟨g, l, l2, n⟩
  · exact .inl ⟨e, by rw [List.take_append_of_le_length h]; exact n⟩
  · exact .inr (.inl e)
  · exact .inr (.inr (.inl e))
  · refine .inr (.inr (.inr ⟨g, l, l2, fun t h0 ht => n t h0 ?_⟩))
    rw [List.getElem?_append_left (by omega)] at ht
    exact ht
theorem alw_snoc {ps : List Str} {z : Str} (h : alw ps) (o : okAt ps ps.length z) : alw (ps ++ [z]) := by
  intro k s hk
  by_cases hlt : k < ps.length
  · rw [List.getElem?_append_left hlt] at hk
    exact okAt_app (by omega) (h k s hk)
  · rw [List.getElem?_append_right (by omega)] at hk
    have hz : k - ps.length = 0 := by
      apply Classical.byContradiction
      intro hne
      rw [List.getElem?_eq_none (by simp; omega)] at hk
      cases hk
    rw [hz] at hk
    cases hk
    have : k = ps.length := by omega
    subst this
    exact okAt_app (Nat.le_refl _) o
theorem allowed_eq {ps : List Str} (h : alw ps) (hl : ps.length ≤ 4) {k : Nat} (hk : k < ps.length) : m_is_allowed ps (k : Int) = some true := by
  have hs : ps[k]? = some ps[k] := List.getElem?_eq_getElem hk
  have hat : atI ps (k : Int) = some ps[k] := by rw [atI_nn (by omega) (by omega), Int.toNat_natCast]; exact hs
  have ho := h k _ hs
  unfold m_is_allowed
  refine Ok.eq (Ok.bde hat ?_)
  rw [if_neg (by rw [decide_eq_false (show ¬ (4 : Int) ≤ (k : Int) by omega)]; decide)]
  by_cases hA : ps[k] = AN
  · rw [ite_ya hA, cut_to _ (by omega), Int.toNat_natCast]
    refine Ok.sm ?_
    rcases ho with ⟨_, n⟩ | e | e | ⟨g, l, l2, _⟩
    · rw [decide_eq_false n]; rfl
    · rw [hA] at e; exact absurd e.symm AN_ne.1
    · rw [hA] at e; exact absurd e.symm AN_ne.2.1
    · rw [hA] at l2
      exact absurd l2 (by decide +kernel)
  · rw [ite_no hA]
    by_cases hF : ps[k] ∈ ([DG, WD, AN] : List Str)
    · rw [ite_ya hF]; exact Ok.sm rfl
    · rw [ite_no hF]
      rcases ho with ⟨e, _⟩ | e | e | ⟨g, l, l2, n⟩
      · exact absurd e hA
      · exact absurd (fr_mem.mpr (.inr (.inl e))) hF
      · exact absurd (fr_mem.mpr (.inr (.inr e))) hF
      · refine Ok.bd (P := fun t => t = false) ?_ fun t ht => ?_
        · by_cases h0 : (0 : Int) < (k : Int)
          · rw [ite_ya h0]
            have hlt : k - 1 < ps.length := by omega
            have ht : ps[k - 1]? = some ps[k - 1] := List.getElem?_eq_getElem hlt
            refine Ok.bde (a := ps[k - 1]) (by rw [atI_nn (by omega) (by omega), show ((k : Int) - 1).toNat = k - 1 by omega]; exact ht) (Ok.sm ?_)
            rw [decide_eq_true (fr_mem.mpr (n _ (by omega) ht))]; rfl
          · rw [ite_no h0]; exact Ok.sm rfl
        · rw [ht, if_neg (by decide)]
          refine Ok.bde (is_line_str _) ?_
          rw [isL_gs g l, if_pos rfl]
          exact Ok.bde (by rw [gd_true (fitsS_ok (by omega))]) (Ok.sm (decide_eq_true (show ((ps[k].length : Int)) ≤ 4 by omega)))
theorem init_eq {ps : List Str} (h : alw ps) (hl : ps.length ≤ 4) (h1 : 1 ≤ ps.length) : m_Form___init__ ps = some ps := by
  unfold m_Form___init__
  rw [ite_no (show ¬ (ps.length : Int) = 0 by omega), gd_true (rgOk_ok (by omega) (by omega) (by omega) (by omega))]
  refine Ok.eq (Ok.bd (Ok.loop (fun _ _ => True) trivial fun pre x post s e _ => ?_) fun _ _ => Ok.sm rfl)
  obtain ⟨e1, e2, e3, e4⟩ := rng_at e
  unfold m_Form___init___b1
  have hx : x = (x.toNat : Int) := by omega
  rw [hx]
  refine Ok.bde (allowed_eq h hl (by omega)) ?_
  rw [if_neg (by decide)]
  exact Ok.sm trivial
theorem comp_map {α β : Type} {f : α → Unit → Option (Option β × Unit)} (g : α → β) {xs : List α} (h : ∀ x ∈ xs, f x () = some (some (g x), ())) : comp f xs () = some (xs.map g, ()) := by
  rw [comp_pure (g := fun x => some (g x)) h]
  congr 2
  induction xs with
  | nil => rfl
  | cons x xs ih => rw [List.filterMap_cons, List.map_cons, ih fun y hy => h y (List.mem_cons_of_mem _ hy)]
theorem bs {α β : Type} (a : α) (f : α → Option β) : (some a).bind f = f a := rfl
def allForms (fs : List (List Str)) : Prop := fs.length ≤ 100 ∧ ∀ ps ∈ fs, alw ps ∧ 1 ≤ ps.length ∧ ps.length ≤ 4
theorem form_cells {ps : List Str} (h : alw ps ∧ 1 ≤ ps.length ∧ ps.length ≤ 4) : m_cells_of ps = some (cellsT ps) ∧ (∀ c ∈ cellsT ps, cell c) ∧ (cellsT ps).length ≤ 32 := by
  have hp := alw_part h.1
  have := cellsT_len hp
  exact ⟨cells_of_eq hp (by have := h.2.2; omega), cellsT_cell hp, by have := h.2.2; omega⟩
theorem Mt_app {cs ds : List Str} : ∀ {w : List Nat}, Mt (cs ++ ds) w ↔ ∃ u v, w = u ++ v ∧ Mt cs u ∧ Mt ds v := by
  induction cs with
  | nil =>
    intro w
    constructor
    · intro h; exact ⟨[], w, rfl, rfl, h⟩
    · rintro ⟨u, v, rfl, rfl, h⟩; exact h
  | cons c cs ih =>
    intro w
    constructor
    · rintro ⟨u, v, rfl, h1, h2⟩
      obtain ⟨u2, v2, rfl, h3, h4⟩ := ih.mp h2
      exact ⟨u ++ u2, v2, by simp, ⟨u, u2, rfl, h1, h3⟩, h4⟩
    · rintro ⟨u, v, rfl, ⟨u1, u2, rfl, h1, h2⟩, h3⟩
      exact ⟨u1, u2 ++ v, by simp, h1, ih.mpr ⟨u2, v, rfl, h2, h3⟩⟩
theorem Mt_signs : ∀ {l w : List Nat}, Mt (l.map fun c => (⟨#[c]⟩ : Str)) w ↔ w = l
  | [], w => Iff.rfl
  | c :: l, w => by
    constructor
    · rintro ⟨u, v, rfl, h1, h2⟩
      rw [Pc_fix sg_ne.1 sg_ne.2, cl_sg] at h1
      rw [h1, Mt_signs.mp h2]; rfl
    · rintro rfl
      exact ⟨[c], l, rfl, (Pc_fix sg_ne.1 sg_ne.2).mpr rfl, Mt_signs.mpr rfl⟩
theorem Mt_cells {ps : List Str} (h : ∀ p ∈ ps, part p) : ∀ {w : List Nat}, Mt (cellsT ps) w ↔ Mt ps w := by
  induction ps with
  | nil => intro w; exact Iff.rfl
  | cons p ps ih =>
    intro w
    have ih := @ih fun q hq => h q (List.mem_cons_of_mem _ hq)
    have e : cellsT (p :: ps) = (if p ∈ ([DG, WD, AN] : List Str) then [p] else sgns p) ++ cellsT ps := by unfold cellsT; rw [List.flatMap_cons]
    rw [e, Mt_app]
    have one : ∀ u, Mt (if p ∈ ([DG, WD, AN] : List Str) then [p] else sgns p) u ↔ Pc p u := by
      intro u
      by_cases hf : p ∈ ([DG, WD, AN] : List Str)
      · rw [if_pos hf]
        constructor
        · rintro ⟨a, b, rfl, h1, rfl⟩; rw [List.append_nil]; exact h1
        · intro h1; exact ⟨u, [], by simp, h1, rfl⟩
      · rw [if_neg hf, sgns_cl, Mt_signs]
        have hn : ¬ fr p := fun z => hf (fr_mem.mpr z)
        rw [Pc_fix (fun z => hn (.inl z)) fun z => hn (z.elim (fun z => .inr (.inl z)) fun z => .inr (.inr z))]
    constructor
    · rintro ⟨u, v, rfl, h1, h2⟩
      exact ⟨u, v, rfl, (one u).mp h1, ih.mp h2⟩
    · rintro ⟨u, v, rfl, h1, h2⟩
      exact ⟨u, v, rfl, (one u).mpr h1, ih.mpr h2⟩

theorem join_cl (xs : List Str) : cl (Txt.join "" xs) = xs.flatMap cl := by
  have e0 : ("" : Str).cps = #[] := by decide +kernel
  have fold : ∀ (ps : List Str) (acc : Array Nat), (ps.foldl (fun acc p => acc ++ ("" : Str).cps ++ p.cps) acc).toList = acc.toList ++ ps.flatMap cl := by
    intro ps
    induction ps with
    | nil => intro acc; simp
    | cons p ps ih =>
      intro acc
      rw [List.foldl_cons, ih, e0, List.flatMap_cons]
      show (acc ++ #[] ++ p.cps).toList ++ _ = _
      rw [Array.toList_append, Array.toList_append]
      simp [cl]
  cases xs with
  | nil => rfl
  | cons p ps =>
    show (ps.foldl (fun acc p => acc ++ ("" : Str).cps ++ p.cps) p.cps).toList = _
    rw [fold, List.flatMap_cons]; rfl
def stMany (fs : List (List Str)) : Nat := (fs.map fun ps => 2 ^ ((cellsT ps).length + 1)).foldr (· * ·) 1
def evP (F : List Str → Bool) : Pat → Bool
  | .form ps => F ps
  | .both l r => evP F l && evP F r
  | .either l r => evP F l || evP F r
theorem cut_left {α : Type} (xs ys : List α) : cut (xs ++ ys) none (some (xs.length : Int)) = xs := by
  rw [cut_to _ (by omega), Int.toNat_natCast, List.take_left]
theorem cut_right {α : Type} (xs ys : List α) : cut (xs ++ ys) (some (xs.length : Int)) none = ys := by
  rw [cut_from _ (by omega), Int.toNat_natCast, List.drop_left]
theorem forms_ne : ∀ a : Pat, 1 ≤ a.forms.length
  | .form _ => Nat.le_refl _
  | .both l r => by
    show 1 ≤ (l.forms ++ r.forms).length
    rw [List.length_append]; have := forms_ne l; omega
  | .either l r => by
    show 1 ≤ (l.forms ++ r.forms).length
    rw [List.length_append]; have := forms_ne l; omega
theorem holds_map (F : List Str → Bool) : ∀ a : Pat, a.holds (a.forms.map F) = some (evP F a)
  | .form ps => rfl
  | .both l r => by
    have e : (Pat.both l r).forms.map F = l.forms.map F ++ r.forms.map F := List.map_append
    rw [e]
    show ((l.holds (cut (l.forms.map F ++ r.forms.map F) none (some (l.forms.length : Int)))).bind fun b => if b = true then r.holds (cut (l.forms.map F ++ r.forms.map F) (some (l.forms.length : Int)) none) else some false) = some (evP F l && evP F r)
    rw [show (l.forms.length : Int) = ((l.forms.map F).length : Int) by rw [List.length_map], cut_left, cut_right, holds_map F l, holds_map F r]
    show (if evP F l = true then some (evP F r) else some false) = _
    cases evP F l <;> rfl
  | .either l r => by
    have e : (Pat.either l r).forms.map F = l.forms.map F ++ r.forms.map F := List.map_append
    rw [e]
    show ((l.holds (cut (l.forms.map F ++ r.forms.map F) none (some (l.forms.length : Int)))).bind fun b => if b = true then some true else r.holds (cut (l.forms.map F ++ r.forms.map F) (some (l.forms.length : Int)) none)) = some (evP F l || evP F r)
    rw [show (l.forms.length : Int) = ((l.forms.map F).length : Int) by rw [List.length_map], cut_left, cut_right, holds_map F l, holds_map F r]
    show (if evP F l = true then some true else some (evP F r)) = _
    cases evP F l <;> rfl
open Classical in
noncomputable def fitB (a : Pat) (w : List Nat) : Bool := evP (fun ps => decide (Mt (cellsT ps) w)) a
structure okP (a : Pat) : Prop where
  ht : a.ht ≤ 3
  fs : ∀ ps ∈ a.forms, alw ps ∧ 1 ≤ ps.length ∧ ps.length ≤ 4
  few : a.forms.length ≤ 16
theorem okP.all {a : Pat} (h : okP a) : allForms a.forms := ⟨by have := h.few; omega, h.fs⟩
theorem pat_forms_eq {a : Pat} (h : okP a) : m_pat_forms a = some a.forms := patN_of h.ht h.few
theorem pat_holds_eq {a : Pat} (h : okP a) (F : List Str → Bool) : m_pat_holds a (a.forms.map F) = some (evP F a) := (patN_of h.ht h.few).trans (holds_map F a)
open Classical in
theorem fit_form {ps : List Str} (h : ∀ p ∈ ps, part p) (w : List Nat) : fitB (.form ps) w = true ↔ Mt ps w := by
  unfold fitB evP
  rw [decide_eq_true_iff, Mt_cells h]
theorem any_alw : alw [AN] := fun k s hs => by
  cases k with
  | zero => cases hs; exact .inl ⟨rfl, by simp⟩
  | succ k => simp at hs
theorem text2 {p : Int × Int} : Ok (m_law_text p) fun r => gs r.1 ∧ 1 ≤ r.1.length ∧ r.1.length ≤ 2 := by
  unfold m_law_text
  refine Ok.bd (take_ok (by decide) (by decide)) fun t1 _ => Ok.bd (take_ok (by decide) (by decide)) fun t2 h2 => ?_
  refine Ok.gd (rgOk_ok (by omega) (by omega) (by omega) (by omega)) ?_
  refine Ok.bd (Ok.loop (fun pre s => gs s.2 ∧ s.2.length = pre.length) ⟨gs_nil, len_nil⟩ fun pre x post s e ⟨g, l⟩ => ?_) fun s ⟨g, l⟩ => Ok.sm ⟨g, ?_, ?_⟩
  · unfold m_law_text_b1
    have fin : ∀ z : Str, gs z ∧ z.length = 1 → pre.length < 100 → gs (s.2 ++ z) ∧ (s.2 ++ z).length = (pre ++ [x]).length := fun z ⟨gz, lz⟩ _ => ⟨gs_app g gz, by rw [len_app, lz, l]; simp⟩
    have hp : pre.length < 100 := by
      have := congrArg List.length e
      rw [rng_len] at this
      simp at this
      omega
    refine Ok.ite (fun _ => ?_) fun _ => ?_
    · unfold m_law_all_signs
      refine Ok.bde rfl (Ok.bd (take_ok (by decide) (by decide)) fun d hd => Ok.bd (ix_gs gs_SG hd.1 ?_ (by decide +kernel)) fun z hz => Ok.gd (catOk_ok ?_) (Ok.sm (fin z hz hp)))
      · show d.1 < ((68 : Nat) : Int)
        exact hd.2
      · rw [hz.2, l]; omega
    · refine Ok.bd (take_ok (by decide) (by decide)) fun d hd => Ok.bd (ix_gs (s := "a1-b") (fun c hc => ?_) hd.1 ?_ (by decide +kernel)) fun z hz => Ok.gd (catOk_ok ?_) (Ok.sm (fin z hz hp))
      · revert c; decide +kernel
      · show d.1 < ((4 : Nat) : Int)
        exact hd.2
      · rw [hz.2, l]; omega
  · show 1 ≤ s.2.length
    rw [l, rng_len]; omega
  · show s.2.length ≤ 2
    rw [l, rng_len]; omega
def small (s : Str) : Prop := fr s ∨ s.length ≤ 2
structure fine (ps : List Str) : Prop where
  al : alw ps
  pos : 1 ≤ ps.length
  few : ps.length ≤ 3
  sm : ∀ s ∈ ps, small s
theorem parts_fine {p : Int × Int} : Ok (m_law_parts p) fun r => fine r.1 := by
  unfold m_law_parts
  refine Ok.bd (take_ok (by decide) (by decide)) fun t1 h1 => Ok.gd (rgOk_ok (by omega) (by omega) (by omega) (by omega)) ?_
  refine Ok.bd (Ok.loop (fun pre s => (alw s.2 ∧ s.2.length = pre.length) ∧ ∀ z ∈ s.2, small z) ⟨⟨fun k s hk => by simp at hk, rfl⟩, fun z hz => by cases hz⟩ fun pre x post s e ⟨⟨g, l⟩, sm⟩ => ?_) fun s ⟨⟨g, l⟩, sm⟩ => Ok.sm ⟨g, ?_, ?_, sm⟩
  · have hp : pre.length < 100 := by
      have := congrArg List.length e
      rw [rng_len] at this
      simp at this
      omega
    have fin : ∀ z : Str, okAt s.2 s.2.length z → small z → (alw (s.2 ++ [z]) ∧ (s.2 ++ [z]).length = (pre ++ [x]).length) ∧ ∀ y ∈ s.2 ++ [z], small y := fun z hz hs => ⟨⟨alw_snoc g hz, by simp [l]⟩, fun y hy => by
      rcases List.mem_append.mp hy with h | h
      · exact sm y h
      · rw [List.mem_singleton.mp h]; exact hs⟩
    have hf : fits s.2 = true := fits_ok (by omega)
    have gp := alw_part g
    unfold m_law_parts_b1
    refine Ok.bd (take_ok (by decide) (by decide)) fun t2 h2 => Ok.gd (shp_lS fun z hz => part_ok (gp z hz)) (Ok.gd (shp_lS fun z hz => absurd hz List.not_mem_nil) ?_)
    refine Ok.bd (P := fun b => b = false → ∀ t, 0 < s.2.length → s.2[s.2.length - 1]? = some t → fr t) (Ok.ite (fun hn => ?_) fun hn => Ok.sm fun _ t h0 => ?_) fun b hb => ?_
    · have hn : s.2 ≠ [] := by simpa using hn
      obtain ⟨q, z, hq⟩ : ∃ q z, s.2 = q ++ [z] := ⟨s.2.dropLast, s.2.getLast hn, (List.dropLast_concat_getLast hn).symm⟩
      refine Ok.bde (a := z) (by rw [hq]; exact atI_last) (Ok.sm fun hz t h0 ht => ?_)
      have e2 : s.2.length - 1 = q.length := by rw [hq]; simp
      rw [e2, hq, List.getElem?_append_right (Nat.le_refl _), Nat.sub_self] at ht
      cases ht
      have hm : z ∈ ([AN, DG, WD] : List Str) := by
        apply Classical.byContradiction
        intro hne
        rw [decide_eq_false hne] at hz
        cases hz
      exact fr_mem2.mp hm
    · have : s.2 = [] := by simpa using hn
      rw [this] at h0
      exact absurd h0 (by decide)
    · refine Ok.ite (fun hA => Ok.gd hf (Ok.sm (fin _ (.inl ⟨rfl, ?_⟩) (.inl (.inl rfl))))) fun _ => Ok.ite (fun _ => Ok.gd hf (Ok.sm (fin _ (.inr (.inl rfl)) (.inl (.inr (.inl rfl)))))) fun _ => Ok.ite (fun _ => Ok.gd hf (Ok.sm (fin _ (.inr (.inr (.inl rfl))) (.inl (.inr (.inr rfl)))))) fun hW => ?_
      · have := (Bool.and_eq_true_iff.mp hA).2
        rw [List.take_of_length_le (Nat.le_refl _)]
        simpa using this
      · have hb0 : b = false := (Bool.or_eq_false_iff.mp hW).2
        exact Ok.bd text2 fun t3 h3 => Ok.gd hf (Ok.sm (fin _ (.inr (.inr (.inr ⟨h3.1, h3.2.1, Nat.le_trans h3.2.2 (by decide), hb hb0⟩))) (.inr h3.2.2)))
  · show 1 ≤ s.2.length
    rw [l, rng_len]; omega
  · show s.2.length ≤ 3
    rw [l, rng_len]; omega
theorem form3_eq {ps : List Str} (h : fine ps) : m_law_form ps = some ps := by
  obtain ⟨h, h1, hl, _⟩ := h
  unfold m_law_form
  have at_ : ∀ (k : Nat) (hk : k < ps.length), atI ps (k : Int) = some ps[k] := fun k hk => by rw [atI_nn (by omega) (by omega), Int.toNat_natCast]; exact List.getElem?_eq_getElem hk
  match ps, h, hl, h1, at_ with
  | [a], h, _, _, at_ => exact Ok.eq (by rw [ite_ya (show (([a] : List Str).length : Int) = 1 from rfl)]; exact Ok.bde (at_ 0 (by simp)) (Ok.bde (init_eq h (by simp) (by simp)) (Ok.sm rfl)))
  | [a, b], h, _, _, at_ => exact Ok.eq (by rw [ite_no (show ¬ (([a, b] : List Str).length : Int) = 1 from by simp), ite_ya (show (([a, b] : List Str).length : Int) = 2 from rfl)]; exact Ok.bde (at_ 0 (by simp)) (Ok.bde (at_ 1 (by simp)) (Ok.bde (init_eq h (by simp) (by simp)) (Ok.sm rfl))))
  | [a, b, c], h, _, _, at_ => exact Ok.eq (by rw [ite_no (show ¬ (([a, b, c] : List Str).length : Int) = 1 from by simp), ite_no (show ¬ (([a, b, c] : List Str).length : Int) = 2 from by simp)]; exact Ok.bde (at_ 0 (by simp)) (Ok.bde (at_ 1 (by simp)) (Ok.bde (at_ 2 (by simp)) (Ok.bde (init_eq h (by simp) (by simp)) (Ok.sm rfl)))))
abbrev Tree : Type := Str × List Str × List Str
inductive TreeOk : Tree → Prop
  | one {ps : List Str} (h : fine ps) : TreeOk ("=", ps, [])
  | alt {ps qs : List Str} (h : fine ps) (k : fine qs) : TreeOk ("|", ps, qs)
  | ends {a b : Str} (ga : gs a) (ha : 1 ≤ a.length ∧ a.length ≤ 2) (gb : gs b) (hb : 1 ≤ b.length ∧ b.length ≤ 2) : TreeOk ("&", [a, AN], [AN, b])
  | any {ps : List Str} (h : fine ps) : TreeOk ("&", ps, [AN])
theorem tree_ok {p : Int × Int} : Ok (m_law_tree p) fun r => TreeOk r.1 := by
  unfold m_law_tree
  refine Ok.bd (take_ok (by decide) (by decide)) fun t1 h1 => Ok.ite (fun _ => ?_) fun _ => Ok.ite (fun _ => ?_) fun _ => Ok.ite (fun _ => ?_) fun _ => ?_
  · exact Ok.bd parts_fine fun t2 h2 => Ok.bd parts_fine fun t3 h3 => Ok.sm (.alt h2 h3)
  · exact Ok.bd text2 fun t2 h2 => Ok.bd text2 fun t3 h3 => Ok.sm (.ends h2.1 h2.2 h3.1 h3.2)
  · exact Ok.bd parts_fine fun t2 h2 => Ok.sm (.any h2)
  · exact Ok.bd parts_fine fun t2 h2 => Ok.sm (.one h2)
theorem and_eq (ps qs : List Str) : m_Pattern___and__ (.form ps) (.form qs) = some (.both (.form ps) (.form qs)) := rfl
theorem or_eq (ps qs : List Str) : m_Pattern___or__ (.form ps) (.form qs) = some (.either (.form ps) (.form qs)) := rfl
def patOf (t : Tree) : Pat := if t.1 = "=" then .form t.2.1 else if t.1 = "&" then .both (.form t.2.1) (.form t.2.2) else .either (.form t.2.1) (.form t.2.2)
theorem any_fine : fine [AN] := ⟨any_alw, by decide, by decide, fun s hs => by rw [List.mem_singleton.mp hs]; exact .inl (.inl rfl)⟩
theorem ends_fine {a b : Str} (ga : gs a) (ha : 1 ≤ a.length ∧ a.length ≤ 2) (gb : gs b) (hb : 1 ≤ b.length ∧ b.length ≤ 2) : fine [a, AN] ∧ fine [AN, b] := by
  have na : ∀ {z : Str}, z.length ≤ 2 → AN ≠ z := fun h e => by
    have : AN.length = 5 := by decide +kernel
    rw [← e] at h; omega
  constructor
  · refine ⟨fun k s hk => ?_, Nat.le_of_ble_eq_true rfl, Nat.le_of_ble_eq_true rfl, fun s hs => ?_⟩
    · match k, hk with
      | 0, hk => cases hk; exact .inr (.inr (.inr ⟨ga, ha.1, by omega, fun t h0 => absurd h0 (by decide)⟩))
      | 1, hk => cases hk; exact .inl ⟨rfl, by simp [na ha.2]⟩
    · rcases List.mem_cons.mp hs with e | e
      · rw [e]; exact .inr ha.2
      · rw [List.mem_singleton.mp e]; exact .inl (.inl rfl)
  · refine ⟨fun k s hk => ?_, Nat.le_of_ble_eq_true rfl, Nat.le_of_ble_eq_true rfl, fun s hs => ?_⟩
    · match k, hk with
      | 0, hk => cases hk; exact .inl ⟨rfl, by simp⟩
      | 1, hk => cases hk; exact .inr (.inr (.inr ⟨gb, hb.1, by omega, fun t _ ht => by cases ht; exact .inl rfl⟩))
    · rcases List.mem_cons.mp hs with e | e
      · rw [e]; exact .inl (.inl rfl)
      · rw [List.mem_singleton.mp e]; exact .inr hb.2
theorem TreeOk.fines {t : Tree} (h : TreeOk t) : fine t.2.1 ∧ (t.1 = "=" ∨ fine t.2.2) := by
  cases h with
  | one h => exact ⟨h, .inl rfl⟩
  | alt h k => exact ⟨h, .inr k⟩
  | ends ga ha gb hb => exact ⟨(ends_fine ga ha gb hb).1, .inr (ends_fine ga ha gb hb).2⟩
  | any h => exact ⟨h, .inr any_fine⟩
theorem built_eq {t : Tree} (h : TreeOk t) : m_law_built t = some (patOf t) := by
  obtain ⟨h1, h2⟩ := h.fines
  unfold m_law_built patOf
  by_cases e : t.1 = "="
  · rw [ite_ya e, if_pos e, form3_eq h1, bs]
  · have k := h2.resolve_left e
    rw [ite_no e, if_neg e]
    by_cases e2 : t.1 = "&"
    · rw [ite_ya e2, if_pos e2, form3_eq h1, bs, form3_eq k, bs, and_eq, bs]
    · rw [ite_no e2, if_neg e2, form3_eq h1, bs, form3_eq k, bs, or_eq, bs]
theorem fine_cells {ps : List Str} (h : fine ps) : (cellsT ps).length ≤ 6 := by
  have one : ∀ p ∈ ps, (if p ∈ ([DG, WD, AN] : List Str) then [p] else sgns p).length ≤ 2 := fun p hp => by
    by_cases hf : p ∈ ([DG, WD, AN] : List Str)
    · rw [if_pos hf]; exact (by decide : 1 ≤ 2)
    · rw [if_neg hf, sgns_len]
      rcases h.sm p hp with e | e
      · exact absurd (fr_mem.mpr e) hf
      · exact e
  have go : ∀ qs : List Str, (∀ p ∈ qs, (if p ∈ ([DG, WD, AN] : List Str) then [p] else sgns p).length ≤ 2) → (cellsT qs).length ≤ 2 * qs.length := by
    intro qs
    induction qs with
    | nil => intro _; exact Nat.le_refl _
    | cons q qs ih =>
      intro hq
      have h1 := hq q List.mem_cons_self
      have h2 := ih fun p hp => hq p (List.mem_cons_of_mem _ hp)
      unfold cellsT at h2 ⊢
      rw [List.flatMap_cons, List.length_append, List.length_cons]
      omega
  have := go ps one
  have := h.few
  omega
theorem pow6 {n : Nat} (h : n ≤ 6) : 2 ^ (n + 1) ≤ 128 := Nat.le_trans (Nat.pow_le_pow_right (by decide) (by omega)) (by decide : 2 ^ 7 ≤ 128)
theorem patOf_ok {t : Tree} (h : TreeOk t) : okP (patOf t) ∧ stMany (patOf t).forms < 15000000 := by
  obtain ⟨h1, h2⟩ := h.fines
  have q1 := pow6 (fine_cells h1)
  have f4 : ∀ {ps : List Str}, fine ps → alw ps ∧ 1 ≤ ps.length ∧ ps.length ≤ 4 := fun h => ⟨h.al, h.pos, Nat.le_trans h.few (by decide)⟩
  unfold patOf
  by_cases e : t.1 = "="
  · rw [if_pos e]
    refine ⟨⟨by show 0 ≤ 3; decide, fun ps hp => ?_, by show 1 ≤ 16; decide⟩, ?_⟩
    · rw [List.mem_singleton.mp hp]; exact f4 h1
    · show 2 ^ ((cellsT t.2.1).length + 1) * 1 < 15000000
      omega
  · have k := h2.resolve_left e
    have q2 := pow6 (fine_cells k)
    have q3 : 2 ^ ((cellsT t.2.1).length + 1) * (2 ^ ((cellsT t.2.2).length + 1) * 1) < 15000000 := by
      have := Nat.mul_le_mul q1 q2
      rw [Nat.mul_one]; omega
    have both : ∀ ps ∈ [t.2.1, t.2.2], alw ps ∧ 1 ≤ ps.length ∧ ps.length ≤ 4 := fun ps hp => by
      rcases List.mem_cons.mp hp with z | z
      · rw [z]; exact f4 h1
      · rw [List.mem_singleton.mp z]; exact f4 k
    rw [if_neg e]
    split
    · exact ⟨⟨by show 1 ≤ 3; decide, both, by show 2 ≤ 16; decide⟩, q3⟩
    · exact ⟨⟨by show 1 ≤ 3; decide, both, by show 2 ≤ 16; decide⟩, q3⟩
theorem fm_ite {α : Type} {p : α → Prop} [DecidablePred p] : ∀ xs : List α, xs.filterMap (fun x => if p x then some x else none) = xs.filter (fun x => decide (p x))
  | [] => rfl
  | x :: xs => by
    by_cases h : p x
    · rw [List.filterMap_cons, if_pos h, List.filter_cons, if_pos (decide_eq_true h), fm_ite xs]
    · rw [List.filterMap_cons, if_neg h, List.filter_cons, if_neg (by rw [decide_eq_false h]; decide), fm_ite xs]
theorem loop_unit {α : Type} {f : α → Unit → Option Unit} {xs : List α} (h : ∀ x ∈ xs, f x () = some ()) : loopS f xs () = some () := by
  refine Ok.eq ((Ok.loop (fun _ _ => True) trivial fun pre x post s e _ => ?_).mono fun _ _ => rfl)
  exact ⟨(), h x (by rw [e]; simp), trivial⟩
theorem comp_allT {α β S : Type} {f : α → S → Option (Option β × S)} {P : β → Prop} : ∀ {xs : List α} {s : S}, (∀ x ∈ xs, ∀ s, Ok (f x s) fun o => ∃ y, o.1 = some y ∧ P y) → Ok (comp f xs s) fun r => r.1.length = xs.length ∧ ∀ y ∈ r.1, P y
  | [], s, _ => Ok.sm ⟨rfl, fun y hy => by cases hy⟩
  | x :: xs, s, h => by
    show Ok ((f x s).bind _) _
    refine Ok.bd (h x List.mem_cons_self s) fun o ⟨y, e, py⟩ => Ok.bd (comp_allT fun z hz => h z (List.mem_cons_of_mem _ hz)) fun r ⟨l, p⟩ => Ok.sm ?_
    rw [e]
    refine ⟨by show (y :: r.1).length = _; rw [List.length_cons, List.length_cons, l], fun z hz => ?_⟩
    rcases List.mem_cons.mp (show z ∈ y :: r.1 from hz) with e | e
    · rw [e]; exact py
    · exact p z e
open Classical in
theorem contains_any {a : Pat} (h : okP a) {z : Str} (g : gs z) (h1 : 1 ≤ z.length) : m_pat___contains__ a z = some (fitB a (cl z)) := by
  have hn : z ≠ "" := fun e => by rw [e] at h1; exact absurd h1 (by decide +kernel)
  have one : ∀ ps ∈ a.forms, ∀ s : List Bool, s.length ≤ 100 → m_pat___contains___b2 z ps s = some (s ++ [decide (Mt (cellsT ps) (cl z))]) := fun ps hps s hs => by
    have hf := h.fs ps hps
    obtain ⟨e1, e2, e3⟩ := form_cells hf
    have hp := alw_part hf.1
    have hloop : loopS (m_pat___contains___b1 (cellsT ps)) (sgns z) (told (cellsT ps) (Sp (cellsT ps) [])) = some (told (cellsT ps) (Sp (cellsT ps) (cl z))) := by
      refine Ok.eq ((Ok.loop (fun pre (s : List Int) => ∃ q : List Nat, pre = q.map (fun c => (⟨#[c]⟩ : Str)) ∧ s = told (cellsT ps) (Sp (cellsT ps) q)) ⟨[], rfl, rfl⟩ fun pre x post s e ⟨q, hq, hs⟩ => ?_).mono fun r ⟨q, hq, hr⟩ => ?_)
      · have hx : x ∈ sgns z := by rw [e]; simp
        rw [sgns_cl, List.mem_map] at hx
        obtain ⟨c, _, rfl⟩ := hx
        subst hs
        unfold m_pat___contains___b1
        exact Ok.bde (moved_eq e2 (by omega)) (Ok.sm ⟨q ++ [c], by rw [hq]; simp, rfl⟩)
      · have inj : ∀ {l m : List Nat}, l.map (fun c => (⟨#[c]⟩ : Str)) = m.map (fun c => (⟨#[c]⟩ : Str)) → l = m := by
          intro l
          induction l with
          | nil => intro m h; cases m with
            | nil => rfl
            | cons _ _ => cases h
          | cons a l ih => intro m h; cases m with
            | nil => cases h
            | cons b m =>
              rw [List.map_cons, List.map_cons] at h
              obtain ⟨h1, h2⟩ := List.cons.inj h
              cases h1
              rw [ih h2]
        rw [sgns_cl] at hq
        rw [hr, inj hq]
    have key : (((cellsT ps).length : Int) ∈ told (cellsT ps) (Sp (cellsT ps) (cl z))) ↔ Mt (cellsT ps) (cl z) := by
      rw [told_mem, Int.toNat_natCast, Sp_no (by rw [List.getElem?_eq_none (Nat.le_refl _)]; exact fun e => nomatch e)]
      unfold Rp
      rw [List.take_length]
      exact ⟨fun h => h.2.2, fun h => ⟨by omega, by omega, h⟩⟩
    unfold m_pat___contains___b2 m_Form_parts m_is_done
    rw [bs, e1, bs, started_eq e2 (by omega), bs, hloop, bs, bs, gd_true (fits_ok (by omega))]
    congr 2
    by_cases hm : Mt (cellsT ps) (cl z)
    · rw [decide_eq_true (key.mpr hm), decide_eq_true hm]
    · rw [decide_eq_false fun q => hm (key.mp q), decide_eq_false hm]
  have all : loopS (m_pat___contains___b2 z) a.forms [] = some (a.forms.map fun ps => decide (Mt (cellsT ps) (cl z))) := by
    refine Ok.eq ((Ok.loop (fun pre (s : List Bool) => s = pre.map fun ps => decide (Mt (cellsT ps) (cl z))) rfl fun pre x post s e hs => ?_).mono fun r h => h)
    have hl := congrArg List.length e
    rw [List.length_append, List.length_cons] at hl
    have := h.few
    refine Ok.of (one x (by rw [e]; simp) s (by rw [hs, List.length_map]; omega)) ?_
    rw [hs, List.map_append]; rfl
  unfold m_pat___contains__
  rw [is_line_str z, bs, isL_gs g h1, if_neg (by decide), pat_forms_eq h, bs, all, bs, pat_holds_eq h, bs]; rfl
theorem contains_eq {a : Pat} (h : okP a) {z : Str} (g : gs z) (h1 : 1 ≤ z.length) (_ : z.length ≤ 500) : m_pat___contains__ a z = some (fitB a (cl z)) := contains_any h g h1

def lines (ls : List Str) : Prop := ∀ z ∈ ls, gs z ∧ 1 ≤ z.length ∧ z.length ≤ 500
theorem line2_ok {p : Int × Int} {ps : List Str} (h : fine ps) : Ok (m_law_line p ps) fun r => gs r.1 ∧ 1 ≤ r.1.length ∧ r.1.length ≤ 40 := by
  have hp := alw_part h.al
  have hl := h.few
  unfold m_law_line
  refine Ok.bd (Ok.loop (fun pre s => gs s.2 ∧ s.2.length ≤ 10 * pre.length) ⟨gs_nil, by rw [len_nil]; omega⟩ fun pre x post s e ⟨g, l⟩ => ?_) fun s ⟨g, l⟩ => ?_
  · have hpl : pre.length ≤ 3 := by
      have := congrArg List.length e
      simp at this
      omega
    have hx : part x := hp x (by rw [e]; simp)
    have fin : ∀ z : Str, gs z → z.length ≤ 10 → gs (s.2 ++ z) ∧ (s.2 ++ z).length ≤ 10 * (pre ++ [x]).length := fun z gz lz => ⟨gs_app g gz, by rw [len_app]; simp; omega⟩
    have rep : ∀ (z : Str) (n : Int), gs z → z.length ≤ 4 → 0 ≤ n → n * z.length ≤ 10 → n ≤ 100 → repOk z n = true ∧ catOk s.2 (repS z n) = true ∧ gs (s.2 ++ repS z n) ∧ (s.2 ++ repS z n).length ≤ 10 * (pre ++ [x]).length := by
      intro z n gz lz h0 h1 h2
      have e1 : (repS z n).length ≤ 10 := by
        rw [len_rep h0]
        have e2 : ((n.toNat * z.length : Nat) : Int) ≤ 10 := by
          rw [Int.natCast_mul, Int.toNat_of_nonneg h0]; exact h1
        omega
      exact ⟨repOk_ok h0 h2 (by omega), catOk_ok (by omega), fin _ (gs_rep h0 gz) e1⟩
    unfold m_law_line_b1
    refine Ok.ite (fun _ => ?_) fun n1 => Ok.ite (fun _ => ?_) fun n2 => Ok.ite (fun _ => ?_) fun n3 => ?_
    · refine Ok.bd (take_ok (by decide) (by decide)) fun d hd => Ok.bd (ix_gs (s := "0123456789") (fun c hc => ?_) hd.1 ?_ (by decide +kernel)) fun z hz => Ok.bd (take_ok (by decide) (by decide)) fun d2 hd2 => ?_
      · revert c; decide +kernel
      · show d.1 < ((10 : Nat) : Int)
        exact hd.2
      · obtain ⟨r1, r2, r3, r4⟩ := rep z (1 + d2.1) hz.1 (by omega) (by omega) (by rw [hz.2]; omega) (by omega)
        exact Ok.gd r1 (Ok.gd r2 (Ok.sm ⟨r3, r4⟩))
    · refine Ok.bd (take_ok (by decide) (by decide)) fun d hd => Ok.bd (ix_gs (s := "aBzb") (fun c hc => ?_) hd.1 ?_ (by decide +kernel)) fun z hz => Ok.bd (take_ok (by decide) (by decide)) fun d2 hd2 => ?_
      · revert c; decide +kernel
      · show d.1 < ((4 : Nat) : Int)
        exact hd.2
      · obtain ⟨r1, r2, r3, r4⟩ := rep z (1 + d2.1) hz.1 (by omega) (by omega) (by rw [hz.2]; omega) (by omega)
        exact Ok.gd r1 (Ok.gd r2 (Ok.sm ⟨r3, r4⟩))
    · refine Ok.bd text2 fun z hz => Ok.bd (take_ok (by decide) (by decide)) fun d2 hd2 => ?_
      obtain ⟨r1, r2, r3, r4⟩ := rep z.1 d2.1 hz.1 (by omega) (by omega) (by
        have : d2.1 = 0 ∨ d2.1 = 1 ∨ d2.1 = 2 := by omega
        rcases this with e | e | e <;> rw [e] <;> omega) (by omega)
      exact Ok.gd r1 (Ok.gd r2 (Ok.sm ⟨r3, r4⟩))
    · rcases hx with rfl | rfl | rfl | hx
      · exact absurd n3 (by decide +kernel)
      · exact absurd n1 (by decide +kernel)
      · exact absurd n2 (by decide +kernel)
      · exact Ok.gd (catOk_ok (by omega)) (Ok.sm (fin x hx.1 (by omega)))
  · refine Ok.ite (fun _ => Ok.bd text2 fun t ht => Ok.sm ⟨ht.1, ht.2.1, by show t.1.length ≤ 40; omega⟩) fun hn => Ok.sm ⟨g, ?_, by show s.2.length ≤ 40; omega⟩
    show 1 ≤ s.2.length
    refine Nat.pos_of_ne_zero fun q => ?_
    have hn := of_decide_eq_false hn
    refine hn (cl_inj ?_)
    rw [cl_len] at q
    rw [List.eq_nil_of_length_eq_zero q]
    decide +kernel
theorem written_ok {p : Int × Int} {t : Tree} (h : TreeOk t) : Ok (m_law_written p t) fun r => gs r.1 ∧ 1 ≤ r.1.length ∧ r.1.length ≤ 40 := by
  obtain ⟨f1, f2⟩ := h.fines
  have mid : ∀ q : Int × Int, Ok (((if (decide (t.1 = ("&" : Str))) = true then (some ((decide (((t.2.2).length : Int) = 2)))) else some (false)).bind fun t56 => if t56 = true then ((atI t.2.1 0).bind fun t73 => (m_law_text q).bind fun t77 => (m_law_take (t77.2) (2)).bind fun t87 => gd (repOk t77.1 t87.1) <| gd (catOk t73 (repS t77.1 t87.1)) <| (atI t.2.2 1).bind fun t101 => gd (catOk (t73 ++ (repS t77.1 t87.1)) t101) <| some (((t73 ++ (repS t77.1 t87.1)) ++ t101), t87.2)) else ((m_law_line q (t.2.1)).bind fun t108 => some (t108.1, t108.2))) : Option (Str × (Int × Int))) fun r => gs r.1 ∧ 1 ≤ r.1.length ∧ r.1.length ≤ 40 := fun q => by
    have plain : Ok ((m_law_line q (t.2.1)).bind fun t108 => some (t108.1, t108.2)) fun r => gs r.1 ∧ 1 ≤ r.1.length ∧ r.1.length ≤ 40 := Ok.bd (line2_ok f1) fun r hr => Ok.sm hr
    cases h with
    | one h => exact Ok.bde rfl (by rw [if_neg (by decide)]; exact plain)
    | alt h k => exact Ok.bde rfl (by rw [if_neg (by decide)]; exact plain)
    | any h => exact Ok.bde (a := false) rfl (by rw [if_neg (by decide)]; exact plain)
    | ends ga ha gb hb =>
      rename_i a b
      refine Ok.bde (a := true) rfl ?_
      rw [if_pos rfl]
      refine Ok.bde (a := a) rfl (Ok.bd text2 fun z hz => Ok.bd (take_ok (by decide) (by decide)) fun d2 hd2 => ?_)
      have l1 := len_rep (s := z.1) hd2.1
      have l2 : (repS z.1 d2.1).length ≤ 2 := by
        rw [l1]
        have : d2.1.toNat = 0 ∨ d2.1.toNat = 1 := by omega
        rcases this with e | e <;> rw [e] <;> omega
      have l3 := len_app a (repS z.1 d2.1)
      have l4 := len_app (a ++ repS z.1 d2.1) b
      refine Ok.gd (repOk_ok hd2.1 (by omega) (by omega)) (Ok.gd (catOk_ok (by omega)) (Ok.bde (a := b) rfl (Ok.gd (catOk_ok (by omega)) (Ok.sm ⟨gs_app (gs_app ga (gs_rep hd2.1 hz.1)) gb, ?_, ?_⟩))))
      · show 1 ≤ ((a ++ repS z.1 d2.1) ++ b).length
        omega
      · show ((a ++ repS z.1 d2.1) ++ b).length ≤ 40
        omega
  unfold m_law_written
  refine Ok.bd (P := fun r => r.1 = true → t.1 = "|") (Ok.ite (fun e => Ok.bd (take_ok (by decide) (by decide)) fun u hu => Ok.sm fun _ => of_decide_eq_true e) fun _ => Ok.sm fun q => nomatch q) fun u hu => Ok.ite (fun e => ?_) fun _ => mid u.2
  have e2 := hu e
  exact Ok.bd (line2_ok (f2.resolve_left fun q => by rw [e2] at q; exact absurd q (by decide +kernel))) fun r hr => Ok.sm hr

theorem loopC_nx {α ρ : Type} {f : α → Unit → Option (Ctl Unit ρ)} : ∀ {xs : List α}, (∀ x ∈ xs, f x () = some (.nx ())) → loopC f xs () = some (.nx ())
  | [], _ => rfl
  | x :: xs, h => by
    show Option.bind (f x ()) _ = _
    rw [h x List.mem_cons_self, bs]
    exact loopC_nx fun y hy => h y (List.mem_cons_of_mem _ hy)

open Classical in
theorem bears_big {t : Tree} (h : TreeOk t) {z : Str} (g : gs z) (h1 : 1 ≤ z.length) (hz : z.length ≤ 4000000) : m_law_bears t z = some (fitB (patOf t) (cl z)) := by
  obtain ⟨f1, f2⟩ := h.fines
  have one : ∀ {ps : List Str}, fine ps → m_law_fits ps z = some (fitB (.form ps) (cl z)) := fun {ps} hf => by
    have hp := alw_part hf.al
    rw [fits_eq hz fun c hc => Nat.le_trans (part_len (hp c hc)).2 (by decide)]
    have hn : z ≠ "" := fun e => by rw [e] at h1; exact absurd h1 (by decide +kernel)
    have k := fit_form hp (cl z)
    congr 1
    by_cases hm : Mt ps (cl z)
    · rw [k.mpr hm, decide_eq_true ⟨hn, hm⟩]
    · rw [decide_eq_false fun q => hm q.2]
      cases hb : fitB (.form ps) (cl z) with
      | false => rfl
      | true => exact absurd (k.mp hb) hm
  unfold m_law_bears patOf
  by_cases e : t.1 = "="
  · rw [ite_ya e, if_pos e, one f1, bs]
  · have k := f2.resolve_left e
    rw [ite_no e, if_neg e]
    by_cases e2 : t.1 = "&"
    · rw [ite_ya e2, if_pos e2, one f1, bs]
      show _ = some (fitB (.form t.2.1) (cl z) && fitB (.form t.2.2) (cl z))
      cases fitB (.form t.2.1) (cl z) with
      | false => rfl
      | true => rw [if_pos rfl, one k, bs, bs, Bool.true_and]
    · rw [ite_no e2, if_neg e2, one f1, bs]
      show _ = some (fitB (.form t.2.1) (cl z) || fitB (.form t.2.2) (cl z))
      cases fitB (.form t.2.1) (cl z) with
      | true => rfl
      | false => rw [if_neg (by decide), one k, bs, bs, Bool.false_or]

def fo (f : Bool × Bool) : Nat := (if f.1 = true then 2 else 0) + (if f.2 = true then 1 else 0)
def stOf4 (most : Option Int) (alone : Bool) (tags : Option Int) (quiet : Bool) : List (Str × Th) := [(("most" : Str), thO most), (("alone" : Str), Th.d (.bool alone)), (("tags" : Str), thO tags), (("quiet" : Str), Th.d (.bool quiet))]
theorem kw_ne : ¬ ("most" : Str) = "alone" ∧ ¬ ("most" : Str) = "tags" ∧ ¬ ("most" : Str) = "quiet" ∧ ¬ ("alone" : Str) = "tags" ∧ ¬ ("alone" : Str) = "quiet" ∧ ¬ ("tags" : Str) = "quiet" ∧ ¬ ("tags" : Str) = "most" := by decide +kernel
theorem get_most {a b c d : Th} : getSd ("most" : Str) [(("most" : Str), a), (("alone" : Str), b), (("tags" : Str), c), (("quiet" : Str), d)] = some a := if_pos rfl
theorem get_alone {a b c d : Th} : getSd ("alone" : Str) [(("most" : Str), a), (("alone" : Str), b), (("tags" : Str), c), (("quiet" : Str), d)] = some b := by
  unfold getSd; rw [if_neg kw_ne.1]; unfold getSd; rw [if_pos rfl]
theorem get_tags {a b c d : Th} : getSd ("tags" : Str) [(("most" : Str), a), (("alone" : Str), b), (("tags" : Str), c), (("quiet" : Str), d)] = some c := by
  unfold getSd; rw [if_neg kw_ne.2.1]; unfold getSd; rw [if_neg kw_ne.2.2.2.1]; unfold getSd; rw [if_pos rfl]
theorem get_quiet {a b c d : Th} : getSd ("quiet" : Str) [(("most" : Str), a), (("alone" : Str), b), (("tags" : Str), c), (("quiet" : Str), d)] = some d := by
  unfold getSd; rw [if_neg kw_ne.2.2.1]; unfold getSd; rw [if_neg kw_ne.2.2.2.2.1]; unfold getSd; rw [if_neg kw_ne.2.2.2.2.2.1]; unfold getSd; rw [if_pos rfl]
def capOk (o : Option Int) : Prop := ∀ n, o = some n → 1 ≤ n ∧ n ≤ 20
def tagOk (o : Option Int) : Prop := ∀ n, o = some n → 0 ≤ n ∧ n ≤ 9
theorem alq : decide (("most" : Str) ∈ [("alone" : Str), ("quiet" : Str)]) = false ∧ decide (("tags" : Str) ∈ [("alone" : Str), ("quiet" : Str)]) = false ∧ decide (("alone" : Str) ∈ [("alone" : Str), ("quiet" : Str)]) = true ∧ decide (("quiet" : Str) ∈ [("alone" : Str), ("quiet" : Str)]) = true ∧ decide (("tags" : Str) = "most") = false := by decide +kernel
theorem allow_most {o : Option Int} (h : capOk o) : m_is_allowed_rules "most" (thO o) = some true := by
  unfold m_is_allowed_rules
  rw [alq.1, if_neg (by decide)]
  cases o with
  | none => rfl
  | some n =>
    obtain ⟨h1, h2⟩ := h n rfl
    show (if decide (("most" : Str) = "most") = true then some (decide (1 ≤ n) && decide (n ≤ 20)) else some (decide (0 ≤ n) && decide (n ≤ 9))) = some true
    rw [if_pos (decide_eq_true rfl), decide_eq_true h1, decide_eq_true h2]; rfl
theorem allow_tags {o : Option Int} (h : tagOk o) : m_is_allowed_rules "tags" (thO o) = some true := by
  unfold m_is_allowed_rules
  rw [alq.2.1, if_neg (by decide)]
  cases o with
  | none => rfl
  | some n =>
    obtain ⟨h1, h2⟩ := h n rfl
    show (if decide (("tags" : Str) = "most") = true then some (decide (1 ≤ n) && decide (n ≤ 20)) else some (decide (0 ≤ n) && decide (n ≤ 9))) = some true
    rw [alq.2.2.2.2, if_neg (by decide), decide_eq_true h1, decide_eq_true h2]; rfl
theorem allow_bool (b : Bool) : m_is_allowed_rules "alone" (Th.d (.bool b)) = some true ∧ m_is_allowed_rules "quiet" (Th.d (.bool b)) = some true := by
  unfold m_is_allowed_rules
  rw [alq.2.2.1, alq.2.2.2.1, if_pos rfl]
  cases b <;> exact ⟨rfl, rfl⟩
theorem check_set {most tags : Option Int} {alone quiet : Bool} (h1 : capOk most) (h2 : tagOk tags) : m_check_settings (stOf4 most alone tags quiet) = some () := by
  unfold m_check_settings
  have one : ∀ {k : Str} {t : Th}, getSd k (stOf4 most alone tags quiet) = some t → m_is_allowed_rules k t = some true → m_check_settings_b1 (stOf4 most alone tags quiet) k () = some () := fun {k t} e1 e2 => by
    unfold m_check_settings_b1
    rw [e1]
    show ((if true = true then (some t).bind _ else _).bind _) = _
    rw [if_pos rfl]
    show (((m_is_allowed_rules k t).bind _).bind _) = _
    rw [e2]; rfl
  have a1 := one (k := "most") get_most (allow_most h1)
  have a2 := one (k := "alone") get_alone (allow_bool alone).1
  have a3 := one (k := "tags") get_tags (allow_tags h2)
  have a4 := one (k := "quiet") get_quiet (allow_bool quiet).2
  show ((loopS _ (["most", "alone", "tags", "quiet"] : List Str) ()).bind _) = _
  rw [loop_unit fun x hx => ?_]
  · rfl
  · rcases List.mem_cons.mp hx with e | hx
    · rw [e]; exact a1
    rcases List.mem_cons.mp hx with e | hx
    · rw [e]; exact a2
    rcases List.mem_cons.mp hx with e | hx
    · rw [e]; exact a3
    · rw [List.mem_singleton.mp hx]; exact a4
theorem rule_eq {bs es : List Pat} {most tags : Option Int} {alone quiet : Bool} (hl : bs.length + es.length ≤ 6) (h1 : capOk most) (h2 : tagOk tags) :
    m_Rule___init__ bs es (thO most) (Th.d (.bool alone)) (thO tags) (Th.d (.bool quiet)) = some (bs, es, stOf4 most alone tags quiet) := by
  unfold m_Rule___init__
  rw [if_neg (by rw [decide_eq_false (by omega)]; decide)]
  show ((m_check_settings (stOf4 most alone tags quiet)).bind _) = _
  rw [check_set h1 h2]; rfl
abbrev LRule : Type := List Tree × List Tree × Option Int × Bool × Option Int × Bool
def ruleOf (r : LRule) : List Pat × List Pat × List (Str × Th) := (r.1.map patOf, r.2.1.map patOf, stOf4 r.2.2.1 r.2.2.2.1 r.2.2.2.2.1 r.2.2.2.2.2)
structure LRuleOk (r : LRule) : Prop where
  b : ∀ t ∈ r.1, TreeOk t
  e : ∀ t ∈ r.2.1, TreeOk t
  len : r.1.length + r.2.1.length ≤ 6
  cap : capOk r.2.2.1
  tag : tagOk r.2.2.2.2.1

section
variable {r : LRule}
noncomputable def begB (r : LRule) (z : Str) : Bool := r.1.any fun t => fitB (patOf t) (cl z)
noncomputable def finB (r : LRule) (z : Str) : Bool := r.2.1.any fun t => fitB (patOf t) (cl z)
theorem rng_snoc (n : Nat) : rng 0 (n : Int) ++ [(n : Int)] = rng 0 ((n : Int) + 1) := by
  unfold rng
  rw [show ((n : Int) + 1 - 0).toNat = n + 1 by omega, show ((n : Int) - 0).toNat = n by omega, List.range_succ, List.map_append]
  show _ = _ ++ [0 + (n : Int)]
  rw [Int.zero_add]
end
section
variable {r : LRule}
theorem any_id2 {α : Type} {f : α → Bool} : ∀ xs : List α, (xs.map f).any id = xs.any f
  | [] => rfl
  | x :: xs => by rw [List.map_cons, List.any_cons, List.any_cons, any_id2 xs]; rfl
structure LineS (z : Str) : Prop where
  g : gs z
  h1 : 1 ≤ z.length
  hl : z.length ≤ 500
theorem begins_on_eq (h : LRuleOk r) {z : Str} (l : LineS z) : m_Rule_begins_on (ruleOf r) z = some (begB r z) := by
  have hl := h.len
  unfold m_Rule_begins_on
  show gd (fitsE (r.1.map patOf)) (Option.bind (comp (m_Rule_begins_on_b1 z) (r.1.map patOf) ()) _) = _
  rw [gd_true (fitsE_ok (by rw [List.length_map]; omega)), comp_map (fun M => fitB M (cl z)) fun M hM => ?_, bs, any_id2, List.any_map]
  · rfl
  · obtain ⟨t, ht, rfl⟩ := List.mem_map.mp hM
    unfold m_Rule_begins_on_b1
    rw [contains_eq (patOf_ok (h.b t ht)).1 l.g l.h1 l.hl, bs]
theorem ends_on_eq (h : LRuleOk r) {z : Str} (l : LineS z) : m_Rule_ends_on (ruleOf r) z = some (finB r z) := by
  have hl := h.len
  unfold m_Rule_ends_on
  show gd (fitsE (r.2.1.map patOf)) (Option.bind (comp (m_Rule_ends_on_b1 z) (r.2.1.map patOf) ()) _) = _
  rw [gd_true (fitsE_ok (by rw [List.length_map]; omega)), comp_map (fun M => fitB M (cl z)) fun M hM => ?_, bs, any_id2, List.any_map]
  · rfl
  · obtain ⟨t, ht, rfl⟩ := List.mem_map.mp hM
    unfold m_Rule_ends_on_b1
    rw [contains_eq (patOf_ok (h.e t ht)).1 l.g l.h1 l.hl, bs]
end
structure LineOk (z : Str) : Prop where
  g : gs z
  h1 : 1 ≤ z.length
  hl : z.length ≤ 4000000
theorem tree_shp {t : Tree} (h : TreeOk t) : okS t.1 ∧ (∀ p ∈ t.2.1, okS p) ∧ ∀ p ∈ t.2.2, okS p := by
  have fo : ∀ {ps : List Str}, fine ps → ∀ p ∈ ps, okS p := fun hf p hp => part_ok (alw_part hf.al p hp)
  have o1 : okS "=" := (by decide +kernel : PyData.strOk "=" = true)
  have o2 : okS "|" := (by decide +kernel : PyData.strOk "|" = true)
  have o3 : okS "&" := (by decide +kernel : PyData.strOk "&" = true)
  cases h with
  | one h => exact ⟨o1, fo h, fun p hp => absurd hp List.not_mem_nil⟩
  | alt h k => exact ⟨o2, fo h, fo k⟩
  | ends ga ha gb hb => exact ⟨o3, fo (ends_fine ga ha gb hb).1, fo (ends_fine ga ha gb hb).2⟩
  | any h => exact ⟨o3, fo h, fo any_fine⟩
theorem any_fm {α : Type} {p : α → Bool} : ∀ xs : List α, (!decide ((xs.filter p).length = 0)) = xs.any p
  | [] => rfl
  | x :: xs => by
    rw [List.filter_cons, List.any_cons]
    cases h : p x with
    | true => rw [if_pos rfl, List.length_cons, decide_eq_false (Nat.succ_ne_zero _)]; rfl
    | false => rw [if_neg (fun h => by cases h), any_fm xs, Bool.false_or]
theorem marked_eq {ts : List Tree} (ht : ∀ t ∈ ts, TreeOk t) (hl : ts.length ≤ 100) {z : Str} (hz : LineOk z) : m_law_marked ts z = some (ts.any fun t => fitB (patOf t) (cl z)) := by
  have sh : ∀ us : List Tree, (∀ t ∈ us, TreeOk t) → shp (dL (dLr (ec dS (ec (dL dS) (Gl.e1 (dL dS)))))) us = true := fun us hu =>
    shpD (i := sL (i := sLr (i := src (i := sS) (j := src (i := sL (i := sS)) (j := sr1 (i := sL (i := sS))))))) fun t h => tree_shp (hu t h)
  unfold m_law_marked
  rw [gd_true (fitsE_ok (by omega)), comp_pure (g := fun t : Tree => if fitB (patOf t) (cl z) = true then some t else none) fun t h => ?_, bs]
  · have ef : ts.filterMap (fun t : Tree => if fitB (patOf t) (cl z) = true then some t else none) = ts.filter fun t => fitB (patOf t) (cl z) := by
      rw [fm_ite]
      congr 1
      funext t
      cases fitB (patOf t) (cl z) <;> rfl
    show gd (shp _ (ts.filterMap _)) _ = _
    rw [ef, gd_true (sh _ fun t h => ht t (List.mem_filter.mp h).1), gd_true (sh [] fun t h => absurd h List.not_mem_nil), ← any_fm]
    congr 2
    exact decide_eq_decide.mpr List.length_eq_zero_iff.symm
  · unfold m_law_marked_b1
    rw [bears_big (ht t h) hz.g hz.h1 hz.hl, bs]
    cases fitB (patOf t) (cl z) <;> rfl
theorem comp_filter {α : Type} {p : α → Bool} {f : α → Unit → Option (Option α × Unit)} : ∀ {xs : List α}, (∀ x ∈ xs, f x () = some (if p x = true then some x else none, ())) → comp f xs () = some (xs.filter p, ())
  | [], _ => rfl
  | x :: xs, h => by
    show Option.bind (f x ()) _ = _
    rw [h x List.mem_cons_self, bs, comp_filter fun y hy => h y (List.mem_cons_of_mem _ hy), bs]
    cases hp : p x with
    | true => rw [List.filter_cons_of_pos hp]; rfl
    | false => rw [List.filter_cons_of_neg (by rw [hp]; decide)]; rfl
theorem lineS_ok {z : Str} (l : LineS z) : LineOk z := ⟨l.g, l.h1, by have := l.hl; omega⟩
section
variable {r : LRule}
theorem marks29 {ts : List Tree} (ht : ∀ t ∈ ts, TreeOk t) (hl : ts.length ≤ 6) : m_law_marks ts = some (ts.map patOf) := by
  unfold m_law_marks
  rw [gd_true (fitsE_ok (by omega)), comp_map patOf fun t h => by unfold m_law_marks_b1; rw [built_eq (ht t h), bs], bs]
theorem ruled29 (h : LRuleOk r) : m_law_ruled r = some (ruleOf r) := by
  have len := h.len
  unfold m_law_ruled
  rw [marks29 h.b (by omega), bs, marks29 h.e (by omega), bs, rule_eq (by simp only [List.length_map]; exact len) h.cap h.tag]
  rfl
end
theorem rule29 {p : Int × Int} : Ok (m_law_rule p) fun r => LRuleOk r.1 := by
  unfold m_law_rule
  refine Ok.bd (take_ok (by decide) (by decide)) fun t1 h1 => Ok.gd (rgOk_ok (by omega) (by omega) (by omega) (by omega)) (Ok.gd (fitsE_ok (by rw [show t1.1 = ((t1.1.toNat : Nat) : Int) by omega, show (0 : Int) = ((0 : Nat) : Int) from rfl, rng_len]; omega)) ?_)
  refine Ok.bd (comp_allT (P := TreeOk) fun x _ s => ?_) fun t13 h13 => Ok.bd (take_ok (by decide) (by decide)) fun t66 h66 => Ok.gd (rgOk_ok (by omega) (by omega) (by omega) (by omega)) (Ok.gd (fitsE_ok (by rw [show t66.1 = ((t66.1.toNat : Nat) : Int) by omega, show (0 : Int) = ((0 : Nat) : Int) from rfl, rng_len]; omega)) ?_)
  · unfold m_law_rule_b1
    exact Ok.bd tree_ok fun t ht => Ok.sm ⟨t.1, rfl, ht⟩
  refine Ok.bd (comp_allT (P := TreeOk) fun x _ s => ?_) fun t78 h78 => ?_
  · unfold m_law_rule_b2
    exact Ok.bd tree_ok fun t ht => Ok.sm ⟨t.1, rfl, ht⟩
  have l13 : t13.1.length ≤ 3 := by
    rw [h13.1, show t1.1 = ((t1.1.toNat : Nat) : Int) by omega, show (0 : Int) = ((0 : Nat) : Int) from rfl, rng_len]; omega
  have l78 : t78.1.length ≤ 2 := by
    rw [h78.1, show t66.1 = ((t66.1.toNat : Nat) : Int) by omega, show (0 : Int) = ((0 : Nat) : Int) from rfl, rng_len]; omega
  refine Ok.bd (take_ok (by decide) (by decide)) fun t131 h131 => Ok.bd (take_ok (by decide) (by decide)) fun t141 h141 => Ok.bd (take_ok (by decide) (by decide)) fun t160 h160 => ?_
  refine Ok.bd (P := capOk) ?_ fun cap hcap => Ok.bd (take_ok (by decide) (by decide)) fun t174 h174 => Ok.bd (take_ok (by decide) (by decide)) fun t184 h184 => Ok.bd (take_ok (by decide) (by decide)) fun t203 h203 => Ok.bd (P := tagOk) ?_ fun tg htg =>
    Ok.bd (take_ok (by decide) (by decide)) fun t217 _ => Ok.bd (take_ok (by decide) (by decide)) fun t227 _ => Ok.sm ⟨h13.2, h78.2, by show t13.1.length + t78.1.length ≤ 6; omega, hcap, htg⟩
  · have i3 : t160.1 = 0 ∨ t160.1 = 1 ∨ t160.1 = 2 := by omega
    rcases i3 with e | e | e <;> rw [e]
    · exact Ok.of (a := none) rfl fun n hn => by cases hn
    · exact Ok.of (a := some (1 + t131.1)) rfl fun n hn => by cases hn; omega
    · exact Ok.of (a := some (1 + t141.1)) rfl fun n hn => by cases hn; omega
  · have i3 : t203.1 = 0 ∨ t203.1 = 1 ∨ t203.1 = 2 := by omega
    rcases i3 with e | e | e <;> rw [e]
    · exact Ok.of (a := none) rfl fun n hn => by cases hn
    · exact Ok.of (a := some t174.1) rfl fun n hn => by cases hn; omega
    · exact Ok.of (a := some t184.1) rfl fun n hn => by cases hn; omega
theorem row29 {p : Int × Int} {r : LRule} (h : LRuleOk r) : Ok (m_law_row p r) fun z => LineS z.1 := by
  have hl := h.len
  have ap : (r.1 ++ r.2.1).length = r.1.length + r.2.1.length := List.length_append
  unfold m_law_row
  refine Ok.gd (fits2_ok (by omega)) (Ok.bd (take_ok (by omega) (by omega)) fun t12 h12 => Ok.ite (fun e => ?_) fun _ => ?_)
  · have e := of_decide_eq_true e
    have hi : t12.1.toNat < (r.1 ++ r.2.1).length := by omega
    have ea : atI (r.1 ++ r.2.1) t12.1 = some (r.1 ++ r.2.1)[t12.1.toNat] := by rw [atI_nn h12.1 e, List.getElem?_eq_getElem hi]
    have ht : TreeOk (r.1 ++ r.2.1)[t12.1.toNat] := (List.mem_append.mp (List.getElem_mem hi)).elim (h.b _) (h.e _)
    exact Ok.bde ea (Ok.bd (written_ok ht) fun t27 ⟨g1, g2, g3⟩ => Ok.sm ⟨g1, g2, by show t27.1.length ≤ 500; omega⟩)
  · exact Ok.bd parts_fine fun t37 h37 => Ok.bd (line2_ok h37) fun t47 ⟨g1, g2, g3⟩ => Ok.sm ⟨g1, g2, by show t47.1.length ≤ 500; omega⟩

def lw (s : Str) (n : Nat) : Prop := (∀ c ∈ cl s, c < 1114112) ∧ (cl s).length ≤ n
theorem lw_ok {s : Str} {n : Nat} (h : lw s n) : okS s := by
  show (s.cps.all (· < 0x110000)) = true
  rw [Array.all_eq_true_iff_forall_mem]
  intro c hc
  exact decide_eq_true (h.1 c (Array.mem_toList_iff.mpr hc))
theorem ok_lw {s : Str} (h : okS s) : ∀ c ∈ cl s, c < 1114112 := by
  intro c hc
  have k : (s.cps.all (· < 0x110000)) = true := h
  rw [Array.all_eq_true_iff_forall_mem] at k
  exact of_decide_eq_true (k c (Array.mem_toList_iff.mp hc))
theorem lw_app {s t : Str} {n m : Nat} (h : lw s n) (k : lw t m) : lw (s ++ t) (n + m) := by
  refine ⟨fun c hc => ?_, ?_⟩
  · rw [cl_app, List.mem_append] at hc
    exact hc.elim (h.1 c) (k.1 c)
  · rw [cl_app, List.length_append]
    exact Nat.add_le_add h.2 k.2

def pTxt : Pat → Str
  | .form ps => Txt.join ("" : Str) ps
  | .both l r => joinP (" & " : Str) (pTxt l) (pTxt r)
  | .either l r => joinP (" | " : Str) (pTxt l) (pTxt r)
theorem e0len : ("" : Str).length = 0 := by decide +kernel
theorem join_lw {ps : List Str} (h : ∀ p ∈ ps, part p) (hl : ps.length ≤ 4) : joinOk ("" : Str) ps = true ∧ lw (Txt.join ("" : Str) ps) 32 := by
  have fl : ∀ {qs : List Str}, (∀ p ∈ qs, part p) → (qs.flatMap cl).length ≤ 8 * qs.length ∧ (qs.map (·.length)).sum ≤ 8 * qs.length := fun {qs} h => by
    induction qs with
    | nil => exact ⟨Nat.le_refl _, Nat.le_refl _⟩
    | cons q qs ih =>
      obtain ⟨i1, i2⟩ := ih fun p hp => h p (List.mem_cons_of_mem _ hp)
      have := part_len (h q List.mem_cons_self)
      rw [List.flatMap_cons, List.length_append, List.map_cons, List.sum_cons, List.length_cons, ← cl_len]
      omega
  obtain ⟨f1, f2⟩ := fl h
  refine ⟨decide_eq_true (by rw [e0len]; omega), fun c hc => ?_, ?_⟩
  · rw [join_cl] at hc
    obtain ⟨p, hp, hc⟩ := List.mem_flatMap.mp hc
    exact ok_lw (part_ok (h p hp)) c hc
  · rw [join_cl]; omega
theorem joinP_lw {m s t : Str} {a b : Nat} (hm : lw m 3) (hs : lw s a) (ht : lw t b) (hab : a + b ≤ 1000) : joinPok m s t = true ∧ lw (joinP m s t) (a + b + 5) := by
  have c1 : lw ("(" : Str) 1 := ⟨by decide +kernel, by decide +kernel⟩
  have c2 : lw (")" : Str) 1 := ⟨by decide +kernel, by decide +kernel⟩
  have c0 : lw Str.empty 0 := ⟨(fun c hc => nomatch hc), Nat.le_refl _⟩
  have k := lw_app (lw_app (lw_app (lw_app (lw_app c0 c1) hs) hm) ht) c2
  have k2 : lw (joinP m s t) (a + b + 5) := ⟨k.1, Nat.le_trans k.2 (by omega)⟩
  have z : ∀ {u : Str} {n : Nat}, lw u n → n ≤ 2000 → u.length ≤ sizeLine := fun {u n} h hn => by
    rw [sizeLine_eq, cl_len]; have := h.2; omega
  refine ⟨?_, k2⟩
  unfold joinPok
  rw [decide_eq_true (z hs (by omega)), decide_eq_true (z ht (by omega)), decide_eq_true (z k2 (by omega))]
  rfl
theorem amp3 : lw (" & " : Str) 3 ∧ lw (" | " : Str) 3 := ⟨⟨by decide +kernel, by decide +kernel⟩, ⟨by decide +kernel, by decide +kernel⟩⟩
theorem pTxt_ok : ∀ {P : Pat}, (∀ ps ∈ P.forms, alw ps ∧ 1 ≤ ps.length ∧ ps.length ≤ 4) → P.forms.length ≤ 16 → P.str = some (pTxt P) ∧ lw (pTxt P) (37 * P.forms.length - 5)
  | .form ps, h, _ => by
    obtain ⟨a, b, c⟩ := h ps (List.mem_singleton.mpr rfl)
    obtain ⟨j1, j2⟩ := join_lw (alw_part a) c
    refine ⟨?_, j2⟩
    show gd (joinOk ("" : Str) ps) _ = _
    rw [gd_true j1]; rfl
  | .both l r, h, hl => by
    have e : (Pat.both l r).forms.length = l.forms.length + r.forms.length := List.length_append
    obtain ⟨i1, i2⟩ := pTxt_ok (P := l) (fun ps hp => h ps (List.mem_append_left _ hp)) (by omega)
    obtain ⟨j1, j2⟩ := pTxt_ok (P := r) (fun ps hp => h ps (List.mem_append_right _ hp)) (by omega)
    have n1 := forms_ne l
    have n2 := forms_ne r
    obtain ⟨k1, k2⟩ := joinP_lw amp3.1 i2 j2 (by omega)
    refine ⟨?_, k2.1, ?_⟩
    · show (l.str.bind fun x => r.str.bind fun y => gd (joinPok (" & " : Str) x y) (some (joinP (" & " : Str) x y))) = _
      rw [i1, bs, j1, bs, gd_true k1]; rfl
    · have : (cl (pTxt (.both l r))).length ≤ _ := k2.2
      rw [e]; omega
  | .either l r, h, hl => by
    have e : (Pat.either l r).forms.length = l.forms.length + r.forms.length := List.length_append
    obtain ⟨i1, i2⟩ := pTxt_ok (P := l) (fun ps hp => h ps (List.mem_append_left _ hp)) (by omega)
    obtain ⟨j1, j2⟩ := pTxt_ok (P := r) (fun ps hp => h ps (List.mem_append_right _ hp)) (by omega)
    have n1 := forms_ne l
    have n2 := forms_ne r
    obtain ⟨k1, k2⟩ := joinP_lw amp3.2 i2 j2 (by omega)
    refine ⟨?_, k2.1, ?_⟩
    · show (l.str.bind fun x => r.str.bind fun y => gd (joinPok (" | " : Str) x y) (some (joinP (" | " : Str) x y))) = _
      rw [i1, bs, j1, bs, gd_true k1]; rfl
    · have : (cl (pTxt (.either l r))).length ≤ _ := k2.2
      rw [e]; omega
theorem str_eq {P : Pat} (h : okP P) : m_pat___str__ P = some (pTxt P) := (patN_of h.ht h.few).trans (pTxt_ok h.fs h.few).1
theorem cl_amp : cl (" & " : Str) = cl (" " : Str) ++ cl ("&" : Str) ++ cl (" " : Str) ∧ cl (" | " : Str) = cl (" " : Str) ++ cl ("|" : Str) ++ cl (" " : Str) := by decide +kernel
theorem name_eq {t : Tree} (h : TreeOk t) : m_law_name t = some (pTxt (patOf t)) := by
  obtain ⟨h1, h2⟩ := h.fines
  obtain ⟨j1, j2⟩ := join_lw (alw_part h1.al) (by have := h1.few; omega)
  unfold m_law_name
  by_cases e : t.1 = "="
  · rw [ite_ya e, gd_true j1]
    unfold patOf
    rw [if_pos e]; rfl
  · rw [ite_no e, gd_true j1]
    have f2 : fine t.2.2 := h2.resolve_left e
    obtain ⟨k1, k2⟩ := join_lw (alw_part f2.al) (by have := f2.few; omega)
    have op : t.1 = "&" ∨ t.1 = "|" := by
      cases h with
      | one _ => exact absurd rfl e
      | alt _ _ => exact .inr rfl
      | ends _ _ _ _ => exact .inl rfl
      | any _ => exact .inl rfl
    have w1 := j2.2
    have w2 := k2.2
    rw [← cl_len] at w1 w2
    unfold patOf
    rw [if_neg e]
    show gd _ (gd _ (gd _ (gd _ (gd _ (gd _ (gd _ _)))))) = some (pTxt (if t.1 = "&" then Pat.both (.form t.2.1) (.form t.2.2) else .either (.form t.2.1) (.form t.2.2)))
    have hX : Txt.join ("" : Str) t.2.1 = pTxt (.form t.2.1) := rfl
    have hY : Txt.join ("" : Str) t.2.2 = pTxt (.form t.2.2) := rfl
    rw [hX, hY]
    rw [hX] at w1
    rw [hY] at w2
    generalize hx : pTxt (.form t.2.1) = X at *
    generalize hy : pTxt (.form t.2.2) = Y at *
    have q1 : ("(" : Str).length = 1 := by decide +kernel
    have q2 : (" " : Str).length = 1 := by decide +kernel
    have q3 : (")" : Str).length = 1 := by decide +kernel
    have q4 : t.1.length = 1 := by rcases op with e | e <;> rw [e] <;> decide +kernel
    have L : ∀ {s t : Str}, s.length + t.length ≤ 16000000 → catOk s t = true := fun h => catOk_ok h
    rw [gd_true (L (by omega)), gd_true (L (by rw [len_app]; omega)), gd_true (L (by rw [len_app, len_app]; omega)), gd_true (L (by rw [len_app, len_app, len_app]; omega)), gd_true k1,
      gd_true (L (by rw [len_app, len_app, len_app, len_app]; omega)), gd_true (L (by rw [len_app, len_app, len_app, len_app, len_app]; omega))]
    congr 1
    rcases op with e2 | e2
    · rw [if_pos e2, e2]
      show _ = joinP (" & " : Str) (pTxt (.form t.2.1)) (pTxt (.form t.2.2))
      rw [hx, hy]
      refine cl_inj ?_
      unfold joinP
      simp only [cl_app, cl_amp.1, List.append_assoc]
      rfl
    · rw [if_neg (by rw [e2]; decide), e2]
      show _ = joinP (" | " : Str) (pTxt (.form t.2.1)) (pTxt (.form t.2.2))
      rw [hx, hy]
      refine cl_inj ?_
      unfold joinP
      simp only [cl_app, cl_amp.2, List.append_assoc]
      rfl
def amgB (ms os : List Pat) : Bool := ms.all fun m => decide (pTxt m ∈ os.map pTxt)
theorem all_id2 {α : Type} {f : α → Bool} : ∀ xs : List α, (xs.map f).all id = xs.all f
  | [] => rfl
  | x :: xs => by rw [List.map_cons, List.all_cons, List.all_cons, all_id2 xs]; rfl
theorem among_eq {ms os : List Pat} (hm : ∀ m ∈ ms, okP m) (ho : ∀ m ∈ os, okP m) (l1 : ms.length ≤ 100) (l2 : os.length ≤ 100) : m_are_among ms os = some (amgB ms os) := by
  unfold m_are_among
  rw [gd_true (fitsE_ok (by omega)), comp_map pTxt fun m h => by unfold m_are_among_b1; rw [str_eq (ho m h), bs], bs, gd_true (fitsE_ok (by omega)),
    comp_map (fun m => decide (pTxt m ∈ os.map pTxt)) fun m h => by unfold m_are_among_b2; rw [str_eq (hm m h), bs], bs, all_id2]
  rfl
theorem okp {t : Tree} (h : TreeOk t) : okP (patOf t) := (patOf_ok h).1
theorem none_fm {α : Type} {p : α → Bool} : ∀ xs : List α, decide ((xs.filter fun x => !p x).length = 0) = xs.all p
  | [] => rfl
  | x :: xs => by
    rw [List.filter_cons, List.all_cons]
    cases h : p x with
    | false => rw [if_pos (show (!false) = true from rfl), List.length_cons, decide_eq_false (Nat.succ_ne_zero _)]; rfl
    | true => rw [if_neg (show ¬ (!true) = true by decide), none_fm xs, Bool.true_and]
theorem lamong_eq {ts us : List Tree} (ht : ∀ t ∈ ts, TreeOk t) (hu : ∀ t ∈ us, TreeOk t) (l1 : ts.length ≤ 100) (l2 : us.length ≤ 100) : m_law_among ts us = some (amgB (ts.map patOf) (us.map patOf)) := by
  have sh : ∀ us : List Tree, (∀ t ∈ us, TreeOk t) → shp (dL (dLr (ec dS (ec (dL dS) (Gl.e1 (dL dS)))))) us = true := fun us hu =>
    shpD (i := sL (i := sLr (i := src (i := sS) (j := src (i := sL (i := sS)) (j := sr1 (i := sL (i := sS))))))) fun t h => tree_shp (hu t h)
  unfold m_law_among
  rw [gd_true (fitsE_ok (by omega)), comp_map (fun t => pTxt (patOf t)) fun t h => by unfold m_law_among_b1; rw [name_eq (hu t h), bs], bs, gd_true (fitsE_ok (by omega)),
    comp_filter (p := fun t => !decide (pTxt (patOf t) ∈ us.map fun t => pTxt (patOf t))) fun t h => ?_, bs]
  · show gd (shp _ (ts.filter _)) _ = _
    rw [gd_true (sh _ fun t h => ht t (List.mem_filter.mp h).1), gd_true (sh [] fun t h => absurd h List.not_mem_nil)]
    congr 1
    unfold amgB
    rw [List.all_map, List.map_map]
    show decide (ts.filter _ = []) = _
    rw [decide_eq_decide.mpr List.length_eq_zero_iff.symm, none_fm]
    rfl
  · unfold m_law_among_b2
    rw [name_eq (ht t h), bs]
    cases (!decide (pTxt (patOf t) ∈ us.map fun t => pTxt (patOf t))) <;> rfl
theorem thO_eqv {a b : Option Int} : thFlat (thO a) = true ∧ thEqv (thO a) (thO b) = decide (a = b) := by
  cases a <;> cases b <;> refine ⟨rfl, ?_⟩
  · rfl
  · rfl
  · rfl
  · rename_i x y
    show (x == y) = decide (some x = some y)
    by_cases e : x = y
    · subst e; simp
    · rw [beq_false_of_ne e, decide_eq_false (fun z => e (Option.some.inj z))]
theorem thB_eqv {a b : Bool} : thEqv (Th.d (.bool a)) (Th.d (.bool b)) = decide (a = b) := by cases a <;> cases b <;> rfl
theorem sd_eq {a a' c c' : Option Int} {b b' d d' : Bool} : sdq (stOf4 a b c d) (stOf4 a' b' c' d') = some (decide ((a, b, c, d) = (a', b', c', d'))) := by
  unfold sdq
  have e : sdHits (stOf4 a' b' c' d') (stOf4 a b c d) = some (decide (a = a') && (decide (b = b') && (decide (c = c') && (decide (d = d') && true)))) := by
    unfold stOf4
    unfold sdHits
    rw [get_most]
    dsimp only
    rw [if_pos (by rw [(thO_eqv (a := a) (b := a)).1, (thO_eqv (a := a') (b := a)).1]; rfl), thO_eqv.2]
    unfold sdHits
    rw [get_alone]
    dsimp only
    rw [if_pos (show (thFlat (Th.d (.bool b)) && thFlat (Th.d (.bool b'))) = true from rfl), thB_eqv]
    unfold sdHits
    rw [get_tags]
    dsimp only
    rw [if_pos (by rw [(thO_eqv (a := c) (b := c)).1, (thO_eqv (a := c') (b := c)).1]; rfl), thO_eqv.2]
    unfold sdHits
    rw [get_quiet]
    dsimp only
    rw [if_pos (show (thFlat (Th.d (.bool d)) && thFlat (Th.d (.bool d'))) = true from rfl), thB_eqv]
    rfl
  rw [e]
  show some (decide ((stOf4 a b c d).length = (stOf4 a' b' c' d').length) && _) = _
  rw [decide_eq_true (show (stOf4 a b c d).length = (stOf4 a' b' c' d').length from rfl), Bool.true_and]
  congr 1
  by_cases h1 : a = a' <;> by_cases h2 : b = b' <;> by_cases h3 : c = c' <;> by_cases h4 : d = d' <;> simp [h1, h2, h3, h4]
def partB (r s : LRule) : Bool := decide (r.2.2 = s.2.2) && (amgB (r.1.map patOf) (s.1.map patOf) && amgB (r.2.1.map patOf) (s.2.1.map patOf))
theorem LRuleOk.ps {r : LRule} (h : LRuleOk r) : (∀ m ∈ r.1.map patOf, okP m) ∧ (∀ m ∈ r.2.1.map patOf, okP m) ∧ (r.1.map patOf).length ≤ 6 ∧ (r.2.1.map patOf).length ≤ 6 := by
  have := h.len
  refine ⟨fun m hm => ?_, fun m hm => ?_, by rw [List.length_map]; omega, by rw [List.length_map]; omega⟩
  · obtain ⟨t, ht, rfl⟩ := List.mem_map.mp hm
    exact okp (h.b t ht)
  · obtain ⟨t, ht, rfl⟩ := List.mem_map.mp hm
    exact okp (h.e t ht)
theorem is_part_eq {r s : LRule} (h : LRuleOk r) (k : LRuleOk s) : m_Rule_is_part_of (ruleOf r) (ruleOf s) = some (partB r s) := by
  obtain ⟨h1, h2, h3, h4⟩ := h.ps
  obtain ⟨k1, k2, k3, k4⟩ := k.ps
  unfold m_Rule_is_part_of
  show (sdq (stOf4 _ _ _ _) (stOf4 _ _ _ _)).bind _ = _
  rw [sd_eq, bs]
  unfold partB
  cases decide ((r.2.2.1, r.2.2.2.1, r.2.2.2.2.1, r.2.2.2.2.2) = (s.2.2.1, s.2.2.2.1, s.2.2.2.2.1, s.2.2.2.2.2)) with
  | false => rfl
  | true =>
    rw [if_neg (by decide)]
    show (m_are_among (r.1.map patOf) (s.1.map patOf)).bind _ = _
    rw [among_eq h1 k1 (by omega) (by omega), bs]
    cases amgB (r.1.map patOf) (s.1.map patOf) with
    | false => rfl
    | true =>
      rw [if_pos rfl]
      show ((m_are_among (r.2.1.map patOf) (s.2.1.map patOf)).bind _).bind _ = _
      rw [among_eq h2 k2 (by omega) (by omega)]
      rfl
theorem shpSet (x : Option Int × Bool × Option Int × Bool) : shp (dLr (ec (dO dI) (ec dB (ec (dO dI) (Gl.e1 dB))))) x = true :=
  shpD (i := sLr (i := src (i := sO) (j := src (i := sB) (j := src (i := sO) (j := sr1 (i := sB)))))) ⟨(by cases x.1 <;> trivial), trivial, (by cases x.2.2.1 <;> trivial), trivial⟩
theorem part_eq {r s : LRule} (h : LRuleOk r) (k : LRuleOk s) : m_law_part r s = some (partB r s) := by
  have := h.len
  have := k.len
  unfold m_law_part
  rw [gd_true (shpSet _), gd_true (shpSet _)]
  unfold partB
  show (if (!decide (r.2.2 = s.2.2)) = true then _ else _) = _
  cases decide (r.2.2 = s.2.2) with
  | false => rfl
  | true =>
    rw [if_neg (by decide), lamong_eq h.b k.b (by omega) (by omega), bs]
    cases amgB (r.1.map patOf) (s.1.map patOf) with
    | false => rfl
    | true =>
      rw [if_pos rfl, lamong_eq h.e k.e (by omega) (by omega)]
      rfl
theorem eq_eq {r s : LRule} (h : LRuleOk r) (k : LRuleOk s) : m_Rule___eq__ (ruleOf r) (ruleOf s) = some (partB r s && partB s r) := by
  unfold m_Rule___eq__
  rw [is_part_eq h k, bs]
  cases partB r s with
  | false => rfl
  | true => rw [if_pos rfl, is_part_eq k h]; rfl
theorem lines27 {r : LRule} (h : LRuleOk r) {p : Int × Int} : Ok (m_law_lines p (ruleOf r) r) fun z => z.1 = true := by
  have hl := h.len
  unfold m_law_lines
  refine Ok.gd (rgOk_ok (by omega) (by omega) (by omega) (by omega)) (Ok.bd (Ok.loopN (I := fun _ _ => True) trivial fun pre x post s _ _ => ?_) fun c ⟨s', e, _⟩ => ?_)
  · unfold m_law_lines_b1
    refine Ok.bd (row29 h) fun t l => ?_
    rw [begins_on_eq h l, bs, marked_eq h.b (by omega) (lineS_ok l), bs, if_neg (by show ¬ (!decide (begB r t.1 = begB r t.1)) = true; rw [decide_eq_true rfl]; decide), ends_on_eq h l, bs, marked_eq h.e (by omega) (lineS_ok l), bs, if_neg (by show ¬ (!decide (finB r t.1 = finB r t.1)) = true; rw [decide_eq_true rfl]; decide)]
    exact Ok.sm ⟨t.2, rfl, trivial⟩
  · rw [e]
    exact Ok.sm rfl
theorem shpBB (xs : List Bool) : shp (dL dB) xs = true := shpD (i := sL (i := sB)) fun _ _ => trivial
theorem right27 {r s : LRule} (h : LRuleOk r) (k : LRuleOk s) {p : Int × Int} : Ok (m_law_right p r s) fun z => z.1 = true := by
  unfold m_law_right
  rw [ruled29 h, bs, ruled29 k, bs, part_eq h k, bs, part_eq k h, bs, is_part_eq h k, bs, is_part_eq k h, bs, gd_true (shpBB _), gd_true (shpBB _), if_neg (by rw [decide_eq_true rfl]; decide), eq_eq h k, bs, gd_true (shpBB _), gd_true (shpBB _)]
  have e : (partB r s && partB s r) = decide ([partB r s, partB s r] = [true, true]) := by cases partB r s <;> cases partB s r <;> rfl
  rw [if_neg (by rw [decide_eq_true e]; decide)]
  have fa : m_Form___init__ [("a" : Str)] = some [("a" : Str)] := by decide +kernel
  have e3 : ((m_Rule___eq___vi (ruleOf r) 0).bind fun t140 => (if t140 = true then some true else ((m_Form___init__ [("a" : Str)]).bind fun t171 => (m_Rule___eq___vp (ruleOf r) (Pat.form t171)).bind fun t180 => some t180)).bind fun t165 => some t165) = some false := by
    show Option.bind (Option.bind (m_Form___init__ [("a" : Str)]) _) _ = _
    rw [fa]; rfl
  rw [e3, bs, if_neg (by decide)]
  refine Ok.bd (lines27 h) fun t ht => ?_
  rw [ht, if_pos rfl]
  refine Ok.bd (Ok.bd (lines27 k) fun u hu => Ok.sm hu) fun u hu => Ok.sm hu
abbrev RuleT : Type := List Pat × List Pat × List (Str × Th)
def st0 : List (Str × Th) := stOf4 none true none false
theorem cap0 : capOk none := fun _ h => nomatch h
theorem tag0 : tagOk none := fun _ h => nomatch h
theorem make0 {bs es : List Pat} (h : bs.length + es.length ≤ 6) : m_Rule___init__ bs es (Th.d .none) (Th.d (.bool true)) (Th.d .none) (Th.d (.bool false)) = some (bs, es, st0) := rule_eq (most := none) (tags := none) h cap0 tag0
theorem first_eq {ps : List Pat} (h : ps.length ≤ 6) : m_Rule_by_first ps = some (ps, [], st0) := by
  unfold m_Rule_by_first
  rw [make0 (by simpa using h), bs]
theorem last_eq {ps : List Pat} (h : ps.length ≤ 6) : m_Rule_by_last ps = some ([], ps, st0) := by
  unfold m_Rule_by_last
  rw [make0 (by simpa using h), bs]
def anyP : Pat := .form [("<any>" : Str)]
theorem every_eq : m_Rule_every_line = some ([anyP], [], st0) := by
  unfold m_Rule_every_line
  have fa : m_Form___init__ [("<any>" : Str)] = some [("<any>" : Str)] := by decide +kernel
  rw [fa, bs, make0 (by decide), bs]
  rfl
theorem okp_any : okP anyP ∧ pTxt anyP = ("<any>" : Str) := by
  refine ⟨⟨by decide, fun ps hp => ?_, by decide⟩, by decide +kernel⟩
  rw [List.mem_singleton.mp (show ps ∈ [[("<any>" : Str)]] from hp)]
  exact ⟨any_alw, by decide, by decide⟩
theorem texts_eq {ms : List Pat} (h : ∀ m ∈ ms, okP m) (hl : ms.length ≤ 100) : m_law_texts ms = some (ms.map pTxt) := by
  unfold m_law_texts
  rw [gd_true (fitsE_ok (by omega)), comp_map pTxt fun m hm => by unfold m_law_texts_b1; rw [str_eq (h m hm), bs], bs]
theorem too_many (P : Pat) (b : Bool) : m_law_too_many P b = some true := by
  have e1 : m_Rule_by_first_vx [P, P, P, P, P, P, P] = some (.error ("marks" : Str)) := rfl
  have e2 : m_Rule_by_last_vx [P, P, P, P, P, P, P] = some (.error ("marks" : Str)) := rfl
  unfold m_law_too_many
  cases b with
  | true =>
    rw [if_pos rfl, e1, bs]
    show some (decide (("marks" : Str) = "marks")) = _
    rw [decide_eq_true rfl]
  | false =>
    rw [if_neg (by decide), e2, bs]
    show some (decide (("marks" : Str) = "marks")) = _
    rw [decide_eq_true rfl]
theorem txt_okS {P : Pat} (h : okP P) : okS (pTxt P) := lw_ok (pTxt_ok h.fs h.few).2
theorem shpT (xs : List Str) (h : ∀ s ∈ xs, okS s) : shp (dL dS) xs = true := shpD (i := sL (i := sS)) h
theorem statics_b1 (a b : List Pat) : m_law_statics_b1 (a, b, st0) () = some (.nx ()) := by
  have e1 : m_Rule_most (a, b, st0) = some none := by
    unfold m_Rule_most
    show (getSd "most" (stOf4 none true none false)).bind _ = _
    unfold stOf4
    rw [get_most, bs]; rfl
  have e2 : m_Rule_tags (a, b, st0) = some none := by
    unfold m_Rule_tags
    show (getSd "tags" (stOf4 none true none false)).bind _ = _
    unfold stOf4
    rw [get_tags, bs]; rfl
  have e3 : m_Rule_alone (a, b, st0) = some true := by
    unfold m_Rule_alone
    show (getSd "alone" (stOf4 none true none false)).bind _ = _
    unfold stOf4
    rw [get_alone, bs]; rfl
  have e4 : m_Rule_quiet (a, b, st0) = some false := by
    unfold m_Rule_quiet
    show (getSd "quiet" (stOf4 none true none false)).bind _ = _
    unfold stOf4
    rw [get_quiet, bs]; rfl
  unfold m_law_statics_b1
  rw [e1, bs, if_neg (by decide), e2, bs, if_neg (by decide), e3, bs, if_neg (by decide), e4]
  rfl
theorem statics_eq {P Q : Pat} (hP : okP P) (hQ : okP Q) : m_law_statics P Q = some true := by
  have two : ∀ m ∈ [P, Q], okP m := fun m h => by rcases List.mem_cons.mp h with rfl | h; exact hP; rw [List.mem_singleton.mp h]; exact hQ
  have one : ∀ m ∈ [Q], okP m := fun m h => by rw [List.mem_singleton.mp h]; exact hQ
  have anyo : ∀ m ∈ [anyP], okP m := fun m h => by rw [List.mem_singleton.mp h]; exact okp_any.1
  have mo : ∀ {ms : List Pat}, (∀ m ∈ ms, okP m) → ∀ s ∈ ms.map pTxt, okS s := fun h s hs => by
    obtain ⟨m, hm, rfl⟩ := List.mem_map.mp hs
    exact txt_okS (h m hm)
  unfold m_law_statics
  rw [too_many, bs, if_neg (by decide), too_many, bs]
  show Option.bind (some false) _ = _
  rw [bs, if_neg (by decide), first_eq (Nat.le_of_ble_eq_true rfl : [P, Q, P, Q, P, Q].length ≤ 6), bs]
  show (some [P, Q, P, Q, P, Q]).bind _ = _
  rw [bs, if_neg (by show ¬ (!decide ((6 : Int) = 6)) = true; decide), first_eq (Nat.le_of_ble_eq_true rfl : [P, Q].length ≤ 6), bs, last_eq (Nat.le_of_ble_eq_true rfl : [Q].length ≤ 6), bs, every_eq, bs]
  show (some [P, Q]).bind _ = _
  rw [bs, texts_eq two (Nat.le_of_ble_eq_true rfl : [P, Q].length ≤ 100), bs, bs, gd_true (shpT _ (mo two)), gd_true (shpT _ (mo two)), if_neg (by rw [decide_eq_true rfl]; decide)]
  show Option.bind (some false) _ = _
  rw [bs, if_neg (by decide)]
  show Option.bind (some []) _ = _
  rw [bs, if_neg (by decide)]
  show Option.bind (Option.bind (some [Q]) _) _ = _
  rw [bs, texts_eq one (Nat.le_of_ble_eq_true rfl : [Q].length ≤ 100), bs, bs, gd_true (shpT _ (mo one)), gd_true (shpT _ (mo one)), decide_eq_true rfl]
  show Option.bind (some false) _ = _
  rw [bs, if_neg (by decide)]
  show Option.bind (some [anyP]) _ = _
  have ea : [anyP].map pTxt = [("<any>" : Str)] := by rw [List.map_cons, okp_any.2]; rfl
  rw [bs, texts_eq anyo (Nat.le_of_ble_eq_true rfl : [anyP].length ≤ 100), bs, gd_true (shpT _ (mo anyo)), ← ea, gd_true (shpT _ (mo anyo)), if_neg (by rw [decide_eq_true rfl]; decide)]
  have r0 : LRuleOk ([], [], none, true, none, false) := ⟨(fun _ h => absurd h List.not_mem_nil), (fun _ h => absurd h List.not_mem_nil), by decide, cap0, tag0⟩
  have ee : m_Rule___eq__ ([], [], st0) ([], [], st0) = some true := (eq_eq r0 r0).trans (by decide)
  have e3 : ((some ([] : List Pat)).bind fun t401 => (if (!t401.isEmpty) = true then some true else (m_Rule_by_first []).bind fun t469 => (m_Rule___init__ [] [] (Th.d PyData.none) (Th.d (PyData.bool true)) (Th.d PyData.none) (Th.d (PyData.bool false))).bind fun t489 => (m_Rule___eq__ t469 t489).bind fun t497 => some !t497).bind fun t457 => some t457) = some false := by
    rw [bs, if_neg (by decide), first_eq (by decide : ([] : List Pat).length ≤ 6), bs, make0 (by decide), bs, ee, bs]
    rfl
  show Option.bind (Option.bind (some ([] : List Pat)) _) _ = _
  rw [e3, bs, if_neg (by decide)]
  show (loopC m_law_statics_b1 [([P, Q], [], st0), ([], [Q], st0), ([anyP], [], st0)] ()).bind _ = _
  rw [loopC_nx fun x hx => ?_, bs]
  · rfl
  · rcases List.mem_cons.mp hx with rfl | hx
    · exact statics_b1 _ _
    rcases List.mem_cons.mp hx with rfl | hx
    · exact statics_b1 _ _
    rw [List.mem_singleton.mp hx]
    exact statics_b1 _ _
theorem ins27 {α : Type} {xs : List α} {i : Int} {y a : α} (h : a ∈ insI xs i y) : a ∈ xs ∨ a = y := by
  unfold insI at h
  rcases List.mem_append.mp h with h | h
  · rcases List.mem_append.mp h with h | h
    · exact .inl (List.mem_of_mem_take h)
    · exact .inr (List.mem_singleton.mp h)
  · exact .inl (List.mem_of_mem_drop h)
theorem insl27 {α : Type} {xs : List α} {i : Int} {y : α} : (insI xs i y).length = xs.length + 1 := by
  unfold insI
  rw [List.length_append, List.length_append, List.length_take, List.length_drop, List.length_singleton]; omega
theorem snoc27 {xs : List Tree} {y : Tree} (h : ∀ t ∈ xs, TreeOk t) (k : TreeOk y) : ∀ t ∈ xs ++ [y], TreeOk t := fun t ht => (List.mem_append.mp ht).elim (h t) fun e => by rw [List.mem_singleton.mp e]; exact k
theorem mixed_ok {p : Int × Int} {ts : List Tree} (h : ∀ t ∈ ts, TreeOk t) (hl : ts.length ≤ 6) : Ok (m_law_mixed p ts) fun z => (∀ t ∈ z.1, TreeOk t) ∧ z.1.length ≤ 3 := by
  unfold m_law_mixed
  refine Ok.bd (Ok.loop (I := fun pre s => (∀ t ∈ s.2, TreeOk t) ∧ s.2.length ≤ 2 * pre.length) ⟨fun _ h => absurd h List.not_mem_nil, Nat.zero_le _⟩ fun pre x post s e ⟨i1, i2⟩ => ?_) fun t14 ⟨h1, h2⟩ => ?_
  · have hx : TreeOk x := h x (by rw [e]; exact List.mem_append_right _ List.mem_cons_self)
    have hp : pre.length ≤ 6 := by rw [e, List.length_append] at hl; omega
    unfold m_law_mixed_b1
    refine Ok.bd (P := fun r : (Int × Int) × List Tree => (∀ t ∈ r.2, TreeOk t) ∧ r.2.length ≤ 2 * pre.length + 1) (Ok.bd (take_ok (by decide) (by decide)) fun t43 _ => Ok.ite (fun _ => Ok.bd (take_ok (by omega) (by omega)) fun t54 h54 => Ok.gd ?_ (Ok.sm ⟨fun t ht => ?_, ?_⟩)) fun _ => Ok.sm ⟨i1, by show s.2.length ≤ _; omega⟩) fun t38 ⟨k1, k2⟩ => ?_
    · unfold insOk
      rw [fits_ok (by omega), decide_eq_true h54.1, decide_eq_true (show t54.1 < 2 ^ 63 by omega)]; rfl
    · rcases ins27 ht with q | q
      · exact i1 t q
      · rw [q]; exact hx
    · show (insI s.2 t54.1 x).length ≤ _
      rw [insl27]; omega
    · refine Ok.bd (take_ok (by decide) (by decide)) fun t82 _ => Ok.ite (fun _ => Ok.gd (fits_ok (by omega)) (Ok.sm ⟨snoc27 k1 hx, ?_⟩)) fun _ => Ok.sm ⟨k1, ?_⟩
      · show (t38.2 ++ [x]).length ≤ _
        rw [List.length_append, List.length_append, List.length_singleton]; omega
      · show t38.2.length ≤ _
        rw [List.length_append, List.length_singleton]; omega
  · refine Ok.bd (P := fun r : (Int × Int) × List Tree => ∀ t ∈ r.2, TreeOk t) (Ok.bd (take_ok (by decide) (by decide)) fun t116 _ => Ok.ite (fun _ => Ok.bd tree_ok fun t127 h127 => Ok.gd (fits_ok (by omega)) (Ok.sm (snoc27 h1 h127))) fun _ => Ok.sm h1) fun t111 h111 => ?_
    rw [cut_to _ (by decide)]
    exact Ok.sm ⟨fun t ht => h111 t (List.mem_of_mem_take ht), by show (t111.2.take (Int.toNat 3)).length ≤ 3; rw [List.length_take]; exact Nat.min_le_left _ _⟩
theorem other_ok {p : Int × Int} {r : LRule} (h : LRuleOk r) : Ok (m_law_other p r) fun z => LRuleOk z.1 := by
  have hl := h.len
  unfold m_law_other
  refine Ok.bd (mixed_ok h.b (by omega)) fun t3 h3 => Ok.bd (mixed_ok h.e (by omega)) fun t15 h15 => Ok.bd (take_ok (by decide) (by decide)) fun t63 _ => ?_
  have br : ∀ t ∈ r.1.reverse, TreeOk t := fun t ht => h.b t (List.mem_reverse.mp ht)
  have bl : r.1.reverse.length + r.2.1.length ≤ 6 := by rw [List.length_reverse]; exact hl
  have ml : t3.1.length + t15.1.length ≤ 6 := by have := h3.2; have := h15.2; omega
  refine Ok.ite (fun _ => ?_) fun _ => ?_
  · refine Ok.bd (take_ok (by decide) (by decide)) fun t135 _ => Ok.ite (fun _ => ?_) fun _ => Ok.sm ⟨br, h.e, bl, h.cap, h.tag⟩
    refine Ok.bd (take_ok (by decide) (by decide)) fun t146 h146 => Ok.ite (fun _ => Ok.bd rule29 fun u hu => Ok.sm ⟨br, h.e, bl, hu.cap, h.tag⟩) fun n2 => Ok.ite (fun _ => Ok.bd rule29 fun u hu => Ok.sm ⟨br, h.e, bl, h.cap, h.tag⟩) fun n3 =>
      Ok.ite (fun _ => Ok.bd rule29 fun u hu => Ok.sm ⟨br, h.e, bl, h.cap, hu.tag⟩) fun n4 => Ok.ite (fun _ => Ok.bd rule29 fun u hu => Ok.sm ⟨br, h.e, bl, h.cap, h.tag⟩) fun n5 => ?_
    have a2 := of_decide_eq_false n2
    have a3 := of_decide_eq_false n3
    have a4 := of_decide_eq_false n4
    have a5 := of_decide_eq_false n5
    omega
  · refine Ok.bd (take_ok (by decide) (by decide)) fun t135 _ => Ok.ite (fun _ => ?_) fun _ => Ok.sm ⟨h3.1, h15.1, ml, h.cap, h.tag⟩
    refine Ok.bd (take_ok (by decide) (by decide)) fun t146 h146 => Ok.ite (fun _ => Ok.bd rule29 fun u hu => Ok.sm ⟨h3.1, h15.1, ml, hu.cap, h.tag⟩) fun n2 => Ok.ite (fun _ => Ok.bd rule29 fun u hu => Ok.sm ⟨h3.1, h15.1, ml, h.cap, h.tag⟩) fun n3 =>
      Ok.ite (fun _ => Ok.bd rule29 fun u hu => Ok.sm ⟨h3.1, h15.1, ml, h.cap, hu.tag⟩) fun n4 => Ok.ite (fun _ => Ok.bd rule29 fun u hu => Ok.sm ⟨h3.1, h15.1, ml, h.cap, h.tag⟩) fun n5 => ?_
    have a2 := of_decide_eq_false n2
    have a3 := of_decide_eq_false n3
    have a4 := of_decide_eq_false n4
    have a5 := of_decide_eq_false n5
    omega
theorem turn27 {ns : List Int} {x : Int} (h0 : 0 ≤ x) (h1 : x < 1000) : m_law_b1 ns x () = some (.nx ()) := by
  refine Ok.eq (x := m_law_b1 ns x ()) (a := .nx ()) ?_
  unfold m_law_b1
  refine Ok.bd (pool_ok h0 (by omega)) fun t22 _ => Ok.bd rule29 fun t33 hr => Ok.bd (other_ok hr) fun t43 hs => Ok.bd (right27 hr hs) fun t53 ht => ?_
  rw [ht, if_neg (by decide)]
  refine Ok.bd tree_ok fun t66 k1 => ?_
  rw [built_eq k1, bs]
  refine Ok.bd tree_ok fun t84 k2 => ?_
  rw [built_eq k2, bs, statics_eq (okp k1) (okp k2), bs, if_neg (by decide)]
  exact Ok.sm rfl
theorem math (ns : List Int) (hl : ns.length ≤ 63) : m_law ns = some true := by
  unfold m_law
  have hb : minI 4 (ns.length : Int) ≤ 4 := by unfold minI; split <;> omega
  have hb2 : maxI 1 (minI 4 (ns.length : Int)) ≤ 4 := by unfold maxI; split <;> omega
  have hb3 : 0 ≤ maxI 1 (minI 4 (ns.length : Int)) := by unfold maxI; split <;> omega
  rw [gd_true (rgOk_ok (by omega) (by omega) (by omega) (by omega)), loopC_nx fun x hx => by
    have := rng_mem.mp hx
    exact turn27 (by omega) (by omega), bs]
  rfl

theorem txHead {P : Program} {K : PySem.W.Frag} {h : Heap} {mg : Str → Option Value} (X : K.In h) (G : h.Ns mainGlobals mg) (c : He.SaysD fa fn K) (t : tabs P K = true) (e_NoRule : fw_NoRule K) (e_Rule_by_first : fw_Rule_by_first K) (e_Rule_by_last : fw_Rule_by_last K) (e_Rule_every_line : fw_Rule_every_line K) (e_Rule_quiet : fw_Rule_quiet K) (e_Rule_most : fw_Rule_most K) (e_Rule_tags : fw_Rule_tags K) (e_Rule_alone : fw_Rule_alone K) : Tx P K mg := {
  F_law_pool := fd_of c 0
  g_law_pool := He.glo_ok X G (c.fact 0)
  F_law_take := fd_of c 1
  g_law_take := He.glo_ok X G (c.fact 1)
  F_law_all_signs := fd_of c 2
  g_law_all_signs := He.glo_ok X G (c.fact 2)
  F_law_text := fd_of c 3
  g_law_text := He.glo_ok X G (c.fact 3)
  F_law_parts := fd_of c 4
  g_law_parts := He.glo_ok X G (c.fact 4)
  F_law_tree := fd_of c 5
  g_law_tree := He.glo_ok X G (c.fact 5)
  F_law_rule := fd_of c 6
  g_law_rule := He.glo_ok X G (c.fact 6)
  F_is_allowed_rules := fd_of c 7
  g_is_allowed_rules := He.glo_ok X G (c.fact 7)
  F_check_settings := fd_of c 8
  g_check_settings := He.glo_ok X G (c.fact 8)
  F_Rule___init__ := fd_of c 9
  F_Form___str__ := fd_of c 10
  F_Both___str__ := fd_of c 11
  F_Either___str__ := fd_of c 12
  F_are_among := fd_of c 13
  g_are_among := He.glo_ok X G (c.fact 9)
  F_Rule_is_part_of := fd_of c 14
  F_Rule___eq__ := fd_of c 15
  F_Form_forms := fd_of c 16
  F_Either_forms := fd_of c 17
  F_Both_forms := fd_of c 18
  F_Either___init__ := fd_of c 19
  F_Pattern___or__ := fd_of c 20
  F_Both___init__ := fd_of c 21
  F_Pattern___and__ := fd_of c 22
  F_is_line := fd_of c 23
  g_is_line := He.glo_ok X G (c.fact 10)
  F_is_allowed := fd_of c 24
  g_is_allowed := He.glo_ok X G (c.fact 11)
  F_Form___init__ := fd_of c 25
  F_law_form := fd_of c 26
  g_law_form := He.glo_ok X G (c.fact 12)
  F_law_built := fd_of c 27
  g_law_built := He.glo_ok X G (c.fact 13)
  F_law_marks := fd_of c 28
  g_law_marks := He.glo_ok X G (c.fact 14)
  F_law_ruled := fd_of c 29
  g_law_ruled := He.glo_ok X G (c.fact 15)
  F_law_name := fd_of c 30
  g_law_name := He.glo_ok X G (c.fact 16)
  F_law_among := fd_of c 31
  g_law_among := He.glo_ok X G (c.fact 17)
  F_law_part := fd_of c 32
  g_law_part := He.glo_ok X G (c.fact 18)
  F_law_line := fd_of c 33
  g_law_line := He.glo_ok X G (c.fact 19)
  F_law_written := fd_of c 34
  g_law_written := He.glo_ok X G (c.fact 20)
  F_law_row := fd_of c 35
  g_law_row := He.glo_ok X G (c.fact 21)
  F_Form___contains__ := fd_of c 36
  F_Both___contains__ := fd_of c 37
  F_Either___contains__ := fd_of c 38
  F_Form_holds := fd_of c 39
  F_Either_holds := fd_of c 40
  F_Both_holds := fd_of c 41
  F_cells_of := fd_of c 42
  g_cells_of := He.glo_ok X G (c.fact 22)
  F_closed := fd_of c 43
  g_closed := He.glo_ok X G (c.fact 23)
  F_started := fd_of c 44
  g_started := He.glo_ok X G (c.fact 24)
  F_Form_parts := fd_of c 45
  F_takes := fd_of c 46
  g_takes := He.glo_ok X G (c.fact 25)
  F_moved := fd_of c 47
  g_moved := He.glo_ok X G (c.fact 26)
  F_is_done := fd_of c 48
  g_is_done := He.glo_ok X G (c.fact 27)
  F_Rule_begins_on := fd_of c 49
  F_law_ends := fd_of c 50
  g_law_ends := He.glo_ok X G (c.fact 28)
  F_law_fits := fd_of c 51
  g_law_fits := He.glo_ok X G (c.fact 29)
  F_law_bears := fd_of c 52
  g_law_bears := He.glo_ok X G (c.fact 30)
  F_law_marked := fd_of c 53
  g_law_marked := He.glo_ok X G (c.fact 31)
  F_Rule_ends_on := fd_of c 54
  F_law_lines := fd_of c 55
  g_law_lines := He.glo_ok X G (c.fact 32)
  F_law_right := fd_of c 56
  g_law_right := He.glo_ok X G (c.fact 33)
  F_law_too_many := fd_of c 57
  g_law_too_many := He.glo_ok X G (c.fact 34)
  F_Rule_begins := fd_of c 58
  F_law_texts := fd_of c 59
  g_law_texts := He.glo_ok X G (c.fact 35)
  F_Rule_ends := fd_of c 60
  F_law_statics := fd_of c 61
  g_law_statics := He.glo_ok X G (c.fact 36)
  F_law_mixed := fd_of c 62
  g_law_mixed := He.glo_ok X G (c.fact 37)
  F_law_other := fd_of c 63
  g_law_other := He.glo_ok X G (c.fact 38)
  F_law := fd_of c 64
  g_law := He.glo_ok X G (c.fact 39)
  c_Form := He.cls_ok (c.fact 41)
  gc_Form := He.glo_ok X G (c.fact 40)
  na_Form_pieces := He.noat_ok (c.fact 42)
  me_Form___str__ := He.meth_ok (c.fact 43)
  me_Form_forms := He.meth_ok (c.fact 44)
  mk_Form := He.mkr_ok (c.fact 45)
  me_Form___contains__ := He.meth_ok (c.fact 46)
  me_Form_holds := He.meth_ok (c.fact 47)
  me_Form_parts := He.meth_ok (c.fact 48)
  c_Both := He.cls_ok (c.fact 50)
  gc_Both := He.glo_ok X G (c.fact 49)
  na_Both_left := He.noat_ok (c.fact 51)
  na_Both_right := He.noat_ok (c.fact 52)
  me_Both___str__ := He.meth_ok (c.fact 53)
  me_Both_forms := He.meth_ok (c.fact 54)
  mk_Both := He.mkr_ok (c.fact 55)
  me_Both___contains__ := He.meth_ok (c.fact 56)
  me_Both_holds := He.meth_ok (c.fact 57)
  c_Either := He.cls_ok (c.fact 59)
  gc_Either := He.glo_ok X G (c.fact 58)
  na_Either_left := He.noat_ok (c.fact 60)
  na_Either_right := He.noat_ok (c.fact 61)
  me_Either___str__ := He.meth_ok (c.fact 62)
  me_Either_forms := He.meth_ok (c.fact 63)
  mk_Either := He.mkr_ok (c.fact 64)
  me_Either___contains__ := He.meth_ok (c.fact 65)
  me_Either_holds := He.meth_ok (c.fact 66)
  c_Pattern := He.cls_ok (c.fact 68)
  gc_Pattern := He.glo_ok X G (c.fact 67)
  me_Pattern___or__ := He.meth_ok (c.fact 69)
  me_Pattern___and__ := He.meth_ok (c.fact 70)
  c_Rule := He.cls_ok (c.fact 72)
  gc_Rule := He.glo_ok X G (c.fact 71)
  na_Rule_openers := He.noat_ok (c.fact 73)
  na_Rule_closers := He.noat_ok (c.fact 74)
  na_Rule_settings := He.noat_ok (c.fact 75)
  mk_Rule := He.mkr_ok (c.fact 76)
  me_Rule_is_part_of := He.meth_ok (c.fact 77)
  me_Rule___eq__ := He.meth_ok (c.fact 78)
  me_Rule_begins_on := He.meth_ok (c.fact 79)
  me_Rule_ends_on := He.meth_ok (c.fact 80)
  me_Rule_begins := He.meth_ok (c.fact 81)
  me_Rule_ends := He.meth_ok (c.fact 82)
  pf := patB_ok (He.ba t).1 (He.cls_ok (c.fact 41)) (He.cls_ok (c.fact 50)) (He.cls_ok (c.fact 59))
  cv_Form_ANY := (He.ba (He.ba (He.ba (He.ba t).2).2).2).1
  er_NoRule := er_ok X G (He.ba (He.ba (He.ba (He.ba (He.ba t).2).2).2).2).1 e_NoRule
  xm_NoRule_NoRule := exmB_ok (He.ba (He.ba (He.ba (He.ba (He.ba (He.ba t).2).2).2).2).2).1
  oe_Rule := ownEB_ok (He.ba (He.ba (He.ba (He.ba (He.ba (He.ba (He.ba t).2).2).2).2).2).2).1
  sm_Rule_by_first := sm_ok (He.ba (He.ba (He.ba (He.ba (He.ba (He.ba (He.ba (He.ba t).2).2).2).2).2).2).2).1 e_Rule_by_first
  sm_Rule_by_last := sm_ok (He.ba (He.ba (He.ba (He.ba (He.ba (He.ba (He.ba (He.ba (He.ba t).2).2).2).2).2).2).2).2).1 e_Rule_by_last
  sm_Rule_every_line := sm_ok (He.ba (He.ba (He.ba (He.ba (He.ba (He.ba (He.ba (He.ba (He.ba (He.ba t).2).2).2).2).2).2).2).2).2).1 e_Rule_every_line
  pr_Rule_quiet := pr_ok (He.ba (He.ba (He.ba (He.ba (He.ba (He.ba (He.ba (He.ba (He.ba (He.ba (He.ba t).2).2).2).2).2).2).2).2).2).2).1 e_Rule_quiet
  pr_Rule_most := pr_ok (He.ba (He.ba (He.ba (He.ba (He.ba (He.ba (He.ba (He.ba (He.ba (He.ba (He.ba (He.ba t).2).2).2).2).2).2).2).2).2).2).2).1 e_Rule_most
  pr_Rule_tags := pr_ok (He.ba (He.ba (He.ba (He.ba (He.ba (He.ba (He.ba (He.ba (He.ba (He.ba (He.ba (He.ba (He.ba t).2).2).2).2).2).2).2).2).2).2).2).2).1 e_Rule_tags
  pr_Rule_alone := pr_ok (He.ba (He.ba (He.ba (He.ba (He.ba (He.ba (He.ba (He.ba (He.ba (He.ba (He.ba (He.ba (He.ba (He.ba t).2).2).2).2).2).2).2).2).2).2).2).2).2).1 e_Rule_alone
  gx_NoRule := He.glo_ok X G (c.fact 83)
  k_ANY_CELL := He.str_ok X G (c.fact 96)
  k_DIGITS_CELL := He.str_ok X G (c.fact 97)
  k_DIGIT_SIGNS := He.str_ok X G (c.fact 98)
  g_FIELDS := He.glo_ok X G (c.fact 99)
  q_FIELDS := fun F => ⟨_, _, rfl, He.tupB_ok (He.ba (He.ba t).2).1 F, (.cons rfl (.cons rfl (.cons rfl (.cons rfl .nil))))⟩
  g_FREE_CELLS := He.glo_ok X G (c.fact 100)
  q_FREE_CELLS := fun F => ⟨_, _, rfl, He.tupB_ok (He.ba (He.ba (He.ba t).2).2).1 F, (.cons rfl (.cons rfl (.cons rfl .nil)))⟩
  k_LETTER_SIGNS := He.str_ok X G (c.fact 101)
  k_MOST_FORMS := He.int_ok X G (c.fact 102)
  k_MOST_PARTS := He.int_ok X G (c.fact 103)
  k_MOST_SIGNS := He.int_ok X G (c.fact 104)
  k_SIGNS := He.str_ok X G (c.fact 105)
  k_WORD_CELL := He.str_ok X G (c.fact 106)
  n_all := He.free_ok X G (c.fact 84)
  n_any := He.free_ok X G (c.fact 85)
  n_bool := He.free_ok X G (c.fact 86)
  n_int := He.free_ok X G (c.fact 87)
  n_isinstance := He.free_ok X G (c.fact 88)
  n_len := He.free_ok X G (c.fact 89)
  n_list := He.free_ok X G (c.fact 90)
  n_max := He.free_ok X G (c.fact 91)
  n_min := He.free_ok X G (c.fact 92)
  n_range := He.free_ok X G (c.fact 93)
  n_str := He.free_ok X G (c.fact 94)
  n_tuple := He.free_ok X G (c.fact 95)
}

theorem law_fn {P : Program} {w : World} {K : PySem.W.Frag} {h : Heap} {mg : Str → Option Value} {f : Addr} (X : K.In h) (G : h.Ns mainGlobals mg) (hfa : mg ("law" : Str) = some (.ref f)) (c : He.SaysD fa fn K) (t : tabs P K = true) (e_NoRule : fw_NoRule K) (e_Rule_by_first : fw_Rule_by_first K) (e_Rule_by_last : fw_Rule_by_last K) (e_Rule_every_line : fw_Rule_every_line K) (e_Rule_quiet : fw_Rule_quiet K) (e_Rule_most : fw_Rule_most K) (e_Rule_tags : fw_Rule_tags K) (e_Rule_alone : fw_Rule_alone K) :
    ∃ (K' : PySem.W.Frag) (fd : FuncData) (sp : L2.Sp), K'.In h ∧ (∀ (s : Shared) (v : Value), BindsTo s fd ⟨[v], []⟩ [("_law_script", v)]) ∧ (∀ (H : Hp) (a : Addr) (ns : List Int), ns.length ≤ 63 → Only H → SqL K' H a (ns.map V.int) → sp [.ref a] H (fun v _ => v = .bl true) fun _ _ _ => False) ∧ ∀ base : Heap, K'.In base → base.Ns mainGlobals mg → FnOk P w K' mg base CX0 18 f fd ["_law_script"] sp := by
  have T : Tx P K mg := txHead X G c t e_NoRule e_Rule_by_first e_Rule_by_last e_Rule_every_line e_Rule_quiet e_Rule_most e_Rule_tags e_Rule_alone
  have e := hfa.symm.trans T.g_law
  cases e
  have b := FunD.bindsA (ps := ["_law_script"]) T.F_law fun _ _ _ _ _ _ us hl => match us, hl with | [_], _ => rfl
  refine ⟨K, _, sp_law K, X, fun s v => b s [v] rfl, fun H a ns hl _ hS => ?_, fun base _ _ => ok_law T⟩
  exact ⟨H, .ref a, ns, true, rfl, Same.refl H, ⟨a, rfl, hS⟩, math ns hl, fun v F' H' _ hv => hv⟩
theorem hk_says {K : PySem.W.Frag} (c : obK K = (true, [rhs_NoRule, rhs_Rule_by_first, rhs_Rule_by_last, rhs_Rule_every_line, rhs_Rule_quiet, rhs_Rule_most, rhs_Rule_tags, rhs_Rule_alone], He.valD fn)) : He.SaysD fa fn K ∧ tabs RR.prog K = true ∧ fw_NoRule K ∧ fw_Rule_by_first K ∧ fw_Rule_by_last K ∧ fw_Rule_every_line K ∧ fw_Rule_quiet K ∧ fw_Rule_most K ∧ fw_Rule_tags K ∧ fw_Rule_alone K := by
  have h1 : (tabs RR.prog K && decide ((fwL_NoRule K).map (fun z => z.2.2.2.2.2.2.1) = some (clo_NoRule K)) && decide ((fwL_Rule_by_first K).map (fun z => z.2.2.2.2.2.2.1) = some (clo_Rule_by_first K)) && decide ((fwL_Rule_by_last K).map (fun z => z.2.2.2.2.2.2.1) = some (clo_Rule_by_last K)) && decide ((fwL_Rule_every_line K).map (fun z => z.2.2.2.2.2.2.1) = some (clo_Rule_every_line K)) && decide ((fwL_Rule_quiet K).map (fun z => z.2.2.2.2.2.2.1) = some (clo_Rule_quiet K)) && decide ((fwL_Rule_most K).map (fun z => z.2.2.2.2.2.2.1) = some (clo_Rule_most K)) && decide ((fwL_Rule_tags K).map (fun z => z.2.2.2.2.2.2.1) = some (clo_Rule_tags K)) && decide ((fwL_Rule_alone K).map (fun z => z.2.2.2.2.2.2.1) = some (clo_Rule_alone K))) = true := congrArg Prod.fst c
  have h2 : ([lhs_NoRule K, lhs_Rule_by_first K, lhs_Rule_by_last K, lhs_Rule_every_line K, lhs_Rule_quiet K, lhs_Rule_most K, lhs_Rule_tags K, lhs_Rule_alone K] : List FnU) = [rhs_NoRule, rhs_Rule_by_first, rhs_Rule_by_last, rhs_Rule_every_line, rhs_Rule_quiet, rhs_Rule_most, rhs_Rule_tags, rhs_Rule_alone] := congrArg (fun z : Bool × List FnU × He.AlD => z.2.1) c
  have h3 : He.SaysD fa fn K := congrArg (fun z : Bool × List FnU × He.AlD => z.2.2) c
  obtain ⟨h1, b7⟩ := He.ba h1
  obtain ⟨h1, b6⟩ := He.ba h1
  obtain ⟨h1, b5⟩ := He.ba h1
  obtain ⟨h1, b4⟩ := He.ba h1
  obtain ⟨h1, b3⟩ := He.ba h1
  obtain ⟨h1, b2⟩ := He.ba h1
  obtain ⟨h1, b1⟩ := He.ba h1
  obtain ⟨h1, b0⟩ := He.ba h1
  obtain ⟨a0, h2⟩ := List.cons.inj h2
  obtain ⟨a1, h2⟩ := List.cons.inj h2
  obtain ⟨a2, h2⟩ := List.cons.inj h2
  obtain ⟨a3, h2⟩ := List.cons.inj h2
  obtain ⟨a4, h2⟩ := List.cons.inj h2
  obtain ⟨a5, h2⟩ := List.cons.inj h2
  obtain ⟨a6, h2⟩ := List.cons.inj h2
  obtain ⟨a7, h2⟩ := List.cons.inj h2
  exact ⟨h3, h1, fw_mk a0 b0, fw_mk a1 b1, fw_mk a2 b2, fw_mk a3 b3, fw_mk a4 b4, fw_mk a5 b5, fw_mk a6 b6, fw_mk a7 b7⟩
end Law
open PySem PySem.W PySem.Calls PyProof.Rows
theorem PySem.Challenge.cw_gluedlines_k27_marks_and_parts_of_rules_holds : PySem.Challenge.rw_gluedlines_k27_marks_and_parts_of_rules.Holds := by
  w_on; o_law
  refine HandSHeadRun.head_any (r := OpenLaw.row PySem.Challenge.rw_gluedlines_k27_marks_and_parts_of_rules) (q := view (OpenLaw.row PySem.Challenge.rw_gluedlines_k27_marks_and_parts_of_rules).prog [67]) (H := Law.hk) (ob := Law.ob) (M := 60000) (loose := Law.loose) (d := HandSHeadRun.topDef (OpenLaw.row PySem.Challenge.rw_gluedlines_k27_marks_and_parts_of_rules).prog 67) (kwd := []) Law.ob_eq
    (by kernel_rfl) (fun s => by kernel_rfl) Law.run (by kernel_rfl) (by kernel_rfl) (by kernel_rfl) (by rfl) (by first | assumption | decide +kernel) (by decide +kernel) ⟨rfl, rfl, rfl, rfl, rfl, by decide +kernel⟩ ?hw ?hc
  case hw => w_witness2
  case hc =>
    refine L2.walk_ofE (l := PySem.Challenge.rw_gluedlines_k27_marks_and_parts_of_rules) (n := 63) (k := 18) (x := "_law_script") (CX := L2.CX0) rfl (by decide) (by kernel_rfl) ⟨rfl, by decide, by decide⟩ ?F (fun _ _ _ _ z => z)
    intro w mg fa h Y G hmg0
    obtain ⟨K, KX, c⟩ := Y
    have hmg : mg ("law" : PySem.Str) = some (.ref fa) := by
      have e : (HandSHeadRun.topDef (OpenLaw.row PySem.Challenge.rw_gluedlines_k27_marks_and_parts_of_rules).prog 67).name = ("law" : PySem.Str) := by kernel_rfl
      rw [← e]
      exact hmg0
    obtain ⟨c, t, e0, e1, e2, e3, e4, e5, e6, e7⟩ := Law.hk_says c
    exact Law.law_fn KX G hmg c t e0 e1 e2 e3 e4 e5 e6 e7
#print axioms PySem.Challenge.cw_gluedlines_k27_marks_and_parts_of_rules_holds
