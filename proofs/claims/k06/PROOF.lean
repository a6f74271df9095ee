import PyProof.Rows.All
import Wide.All
import OpenK.AllK
import Wide.FinOn
import KE.KStateDown
import HandS.ForMost
import HandS.Exc
import HandS.WordsExc
import HandS.Defaults
import HandS.Conv
import HandS.Flow
import HandS.IsInst
import HandS.Codes
import HandS.Dict
import HandS.Star
import HandS.Iter
import HandS.Zip
import HandS.Text
import HandS.TupAny
import HandS.Style
import HandS.SortInts
import PyProof.Rows.TmSorted
import PyProof.Rows.SortStr
import KE.KeyNested
import PyProof.DictRoadsH
import PyProof.Rows.TupTab
import HandS.Head0
import HandS.Head1
import HandS.Head2
import HandS.HeadEnd
import HandS.HeadHook1
import HandS.HeadHook2
import KE.KOpsOwn
import KE.KExcSuper
import HandS.ExcInit
import HandS.ExcField
import KE.SortData
import HandS.DictTup
import PyProof.DictMoreH
import HandS.NoneIn
import HandS.SetFor
import HandS.Strs
import KE.DataCmp
import HandS.Replace
import HandS.ReplaceList
import KE.KDictSum
import KE.KDictCopyH
import KE.KCallOwn
import HandS.FStr
import HandS.ExcValue
import HandS.Deep
import HandS.ExcOwn
import KE.KExcIs
import HandS.Property
import HandS.MakeKwOnly
import HandS.ClsMeth
import HandS.SetBool
import HandS.TupSets
import HandS.CallSlots
import HandS.StrMore
import KE.GoesMore
import PySem.Challenge.RW_gluedlines_k06_pattern_texts_read
set_option Elab.async false
set_option linter.all false
set_option maxRecDepth 100000
set_option maxHeartbeats 4000000
set_option synthInstance.maxSize 1000
set_option synthInstance.maxHeartbeats 400000
namespace Gl
open PySem PySem.Spec PyProof.Rows L2
def gd {α : Type} (b : Bool) (x : Option α) : Option α := match b with
 | true => x
 | false => none
theorem Zae {α : Type} {b : Bool} {x : Option α} {r : α} (h : gd b x = some r) : b = true ∧ x = some r := by
 cases b with
 | true => exact ⟨rfl,h⟩
 | false => cases h
theorem Zao {α : Type} {b : Bool} {x : Option α} (h : b = true) : gd b x = x := by rw [h]; rfl
theorem Zab {α β : Type} {x : Option α} {k : α → Option β} {r : β} (h : x.bind k = some r) : ∃ a,x = some a ∧ k a = some r := by
 cases x with
 | none => cases h
 | some a => exact ⟨a,rfl,h⟩
inductive Ctl (S R : Type) where
 | nx (s : S) | bk (s : S) | rt (r : R)
theorem pGet {α β : Type} {R : α → β → Prop} : ∀ {xs : List α} {ys : List β} {i : Nat} {y : β},Paired R xs ys → ys[i]? = some y → ∃ x,xs[i]? = some x ∧ R x y
 | _,_,_,_,.nil,e => by simp at e
 | _,_,0,_,.cons r _,e => by simp at e; subst e; exact ⟨_,rfl,r⟩
 | _,_,i + 1,y,.cons _ t,e => by
  obtain ⟨x,h1,h2⟩ := pGet (i := i) (y := y) t (by simpa using e)
  exact ⟨x,by simpa using h1,h2⟩
theorem pGetL {α β : Type} {R : α → β → Prop} : ∀ {xs : List α} {ys : List β} {i : Nat} {x : α},Paired R xs ys → xs[i]? = some x → ∃ y,ys[i]? = some y ∧ R x y
 | _,_,_,_,.nil,e => by simp at e
 | _,_,0,_,.cons r _,e => by simp at e; subst e; exact ⟨_,rfl,r⟩
 | _,_,i + 1,y,.cons _ t,e => by
  obtain ⟨x,h1,h2⟩ := pGetL (i := i) (x := y) t (by simpa using e)
  exact ⟨x,by simpa using h1,h2⟩
theorem pApp {α β : Type} {R : α → β → Prop} : ∀ {xs xs' : List α} {ys ys' : List β},Paired R xs ys → Paired R xs' ys' → Paired R (xs ++ xs') (ys ++ ys')
 | _,_,_,_,.nil,s => s
 | _,_,_,_,.cons r t,s => .cons r (pApp t s)
theorem pDrop {α β : Type} {R : α → β → Prop} : ∀ {xs : List α} {ys : List β} (n : Nat),Paired R xs ys → Paired R (xs.drop n) (ys.drop n)
 | _,_,0,r => r
 | _,_,_ + 1,.nil => .nil
 | _,_,n + 1,.cons _ t => pDrop n t
theorem pTake {α β : Type} {R : α → β → Prop} : ∀ {xs : List α} {ys : List β} (n : Nat),Paired R xs ys → Paired R (xs.take n) (ys.take n)
 | _,_,0,_ => .nil
 | _,_,_ + 1,.nil => .nil
 | _,_,n + 1,.cons r t => .cons r (pTake n t)
theorem pLen {α β : Type} {R : α → β → Prop} {xs : List α} {ys : List β} (h : Paired R xs ys) : xs.length = ys.length := h.length
structure R (α : Type) where
 r : PySem.W.Frag → Hp → V → α → Prop
 mono : ∀ {K : PySem.W.Frag} {F F' : Hp} {v : V} {a : α},Same F F' → r K F v a → r K F' v a
def qI : R Int := ⟨fun _ _ v i => v = .int i,fun _ h => h⟩
def qB : R Bool := ⟨fun _ _ v i => v = .bl i,fun _ h => h⟩
def qS : R Str := ⟨fun _ _ v i => v = .str i,fun _ h => h⟩
def qO {α : Type} (A : R α) : R (Option α) := ⟨fun K F v i => match i with
 | none => v = .non
 | some a => A.r K F v a,fun {K F F' v a} e h => by
  cases a with
  | none => exact h
  | some a => exact A.mono e h⟩
abbrev Row {α : Type} (A : R α) (K : PySem.W.Frag) (F : Hp) (vs : List V) (xs : List α) : Prop := Paired (fun v x => A.r K F v x) vs xs
theorem Row.mono {α : Type} {A : R α} {K : PySem.W.Frag} {F F' : Hp} {vs : List V} {xs : List α} (e : Same F F') (h : Row A K F vs xs) : Row A K F' vs xs := Paired.mapP h fun _ _ r => A.mono e r
theorem Zdu {K : PySem.W.Frag} {H H' : Hp} {a : Addr} {xs : List V} (e : Same H H') (h : SqT K H a xs) : SqT K H' a xs := by
 rcases h with (h | ⟨o,h⟩) | h
 ·exact .inl (.inl (e _ _ h))
 ·exact .inl (.inr ⟨o,e _ _ h⟩)
 ·exact .inr h
def qL {α : Type} (A : R α) : R (List α) := ⟨fun K F v xs => ∃ p vs,v = .ref p ∧ F p = some (.lst vs) ∧ Row A K F vs xs,fun e ⟨p,vs,h1,h2,h3⟩ => ⟨p,vs,h1,e _ _ h2,Row.mono e h3⟩⟩
def qT {α : Type} (A : R α) : R (List α) := ⟨fun K F v xs => ∃ p vs,v = .ref p ∧ SqT K F p vs ∧ Row A K F vs xs,fun e ⟨p,vs,h1,h2,h3⟩ => ⟨p,vs,h1,Zdu e h2,Row.mono e h3⟩⟩
def qQ {α : Type} (A : R α) : R (List α) := ⟨fun K F v xs => (qL A).r K F v xs ∨ (qT A).r K F v xs,fun e h => h.elim (fun h => .inl ((qL A).mono e h)) fun h => .inr ((qT A).mono e h)⟩
def q2 {α β : Type} (A : R α) (B : R β) : R (α × β) := ⟨fun K F v x => ∃ p u w,v = .ref p ∧ SqT K F p [u,w] ∧ A.r K F u x.1 ∧ B.r K F w x.2,fun e ⟨p,u,w,h1,h2,h3,h4⟩ => ⟨p,u,w,h1,Zdu e h2,A.mono e h3,B.mono e h4⟩⟩
def q3 {α β γ : Type} (A : R α) (B : R β) (C : R γ) : R (α × β × γ) := ⟨fun K F v x => ∃ p u w z,v = .ref p ∧ SqT K F p [u,w,z] ∧ A.r K F u x.1 ∧ B.r K F w x.2.1 ∧ C.r K F z x.2.2,fun e ⟨p,u,w,z,h1,h2,h3,h4,h5⟩ => ⟨p,u,w,z,h1,Zdu e h2,A.mono e h3,B.mono e h4,C.mono e h5⟩⟩
structure Sx (P : Addr → Prop) (F0 H0 F H : Hp) : Prop where
 le : Same F0 F
 sub : Same F H
 new : ∀ a o,F a = some o → F0 a = none → H0 a = none ∨ P a
 same : ∀ a o,H0 a = some o → ¬ P a → H a = some o
 live : ∀ a,P a → H a ≠ none
structure Ow (P : Addr → Prop) (H0 F H : Hp) (p : Addr) (o : HO) : Prop where
 fr : F p = none
 at_ : H p = some o
 mine : H0 p = none ∨ P p
abbrev P0 : Addr → Prop := fun _ => False
section
variable {P P' : Addr → Prop} {F0 H0 F H F' H' : Hp} {p q : Addr} {o u : HO}
theorem Sx.refl (h : Same F H) (l : ∀ a,P a → H a ≠ none) : Sx P F H F H := ⟨Same.refl F,h,fun a o e n => absurd (n.symm.trans e) (fun z => nomatch z),fun _ _ e _ => e,l⟩
theorem Sx.refl0 (h : Same F H) : Sx P0 F H F H := Sx.refl h fun _ z => z.elim
theorem Sx.free (S : Sx P F0 H0 F H) (h : H q = none) : F q = none := S.sub.free h
theorem Sx.free0 (S : Sx P F0 H0 F H) (h : H q = none) : H0 q = none := by
 cases e : H0 q with
 | none => rfl
 | some o =>
  have np : ¬ P q := fun z => S.live q z h
  have := S.same q o e np
  rw [h] at this
  cases this
theorem Sx.leN (S : Sx P F0 H0 F H) (h : H q = none) : Same F (upd F q o) := fun a u e => by
 rw [upd_ne (ne_of_none e (S.free h))]
 exact e
theorem Sx.temp (S : Sx P F0 H0 F H) (h : H q = none) : Sx P F0 H0 F (upd H q o) := by
 refine ⟨S.le,fun a u e => ?_,S.new,fun a u e n => ?_,fun a z => ?_⟩
 ·rw [upd_ne (ne_of_none (S.sub a u e) h)]; exact S.sub a u e
 ·rw [upd_ne (ne_of_none (S.same a u e n) h)]; exact S.same a u e n
 ·have l := S.live a z
  have ne : a ≠ q := fun e => l (by rw [e]; exact h)
  rw [upd_ne ne]; exact l
theorem Sx.alloc (S : Sx P F0 H0 F H) (h : H q = none) : Sx P F0 H0 (upd F q o) (upd H q o) := by
 refine ⟨S.le.trans (S.leN h),fun a u e => ?_,fun a u e n => ?_,(S.temp h).same,(S.temp h).live⟩
 ·by_cases z : a = q
  ·subst z; rw [upd_same] at e ⊢; exact e
  ·rw [upd_ne z] at e ⊢; exact S.sub a u e
 ·by_cases z : a = q
  ·subst z; exact .inl (S.free0 h)
  ·rw [upd_ne z] at e; exact S.new a u e n
theorem Sx.put (S : Sx P F0 H0 F H) (w : Ow P H0 F H p o) : Sx P F0 H0 F (upd H p u) := by
 refine ⟨S.le,fun a v e => ?_,S.new,fun a v e n => ?_,fun a z => ?_⟩
 ·have ne : a ≠ p := fun z => by rw [z,w.fr] at e; cases e
  rw [upd_ne ne]; exact S.sub a v e
 ·have ne : a ≠ p := fun z => by
   rcases w.mine with m | m
   ·rw [z,m] at e; cases e
   ·exact n (z ▸ m)
  rw [upd_ne ne]; exact S.same a v e n
 ·by_cases e : a = p
  ·subst e; rw [upd_same]; exact fun h => nomatch h
  ·rw [upd_ne e]; exact S.live a z
theorem Sx.freezeP (S : Sx P F0 H0 F H) (w : Ow P H0 F H p o) : Sx P F0 H0 (upd F p o) H := by
 refine ⟨S.le.trans fun a u e => ?_,fun a u e => ?_,fun a u e n => ?_,S.same,S.live⟩
 ·rw [upd_ne (ne_of_none e w.fr)]; exact e
 ·by_cases z : a = p
  ·subst z; rw [upd_same] at e; cases e; exact w.at_
  ·rw [upd_ne z] at e; exact S.sub a u e
 ·by_cases z : a = p
  ·subst z; exact w.mine
  ·rw [upd_ne z] at e; exact S.new a u e n
theorem Sx.freeze (S : Sx P F0 H0 F H) (w : Ow P H0 F H p o) (_ : H0 p = none) : Sx P F0 H0 (upd F p o) H := S.freezeP w
theorem Ow.leF (w : Ow P H0 F H p o) : Same F (upd F p o) := fun a u e => by rw [upd_ne (ne_of_none e w.fr)]; exact e
theorem Sx.call (S : Sx P F0 H0 F H) (c : Sx P' F H F' H') (h : ∀ a,P' a → P a ∨ H0 a = none) : Sx P F0 H0 F' H' := by
 refine ⟨S.le.trans c.le,c.sub,fun a u e n => ?_,fun a u e n => ?_,fun a z => ?_⟩
 ·cases q : F a with
  | some o => exact S.new a o q n
  | none => exact (c.new a u e q).elim (fun z => .inl (S.free0 z)) fun z => (h a z).symm
 ·refine c.same a u (S.same a u e n) fun z => ?_
  rcases h a z with z | z
  ·exact n z
  ·rw [z] at e; cases e
 ·by_cases y : P' a
  ·exact c.live a y
  ·have l := S.live a z
   cases e : H a with
   | none => exact absurd e l
   | some o =>
    rw [c.same a o e y]
    exact fun h => nomatch h
theorem Sx.call0 (S : Sx P F0 H0 F H) (c : Sx P0 F H F' H') : Sx P F0 H0 F' H' := S.call c fun _ z => z.elim
theorem Sx.call1 (S : Sx P F0 H0 F H) (c : Sx (fun a => a = p) F H F' H') (w : Ow P H0 F H p o) : Sx P F0 H0 F' H' := S.call c fun a z => by
 subst z
 exact w.mine.symm
theorem Ow.call (w : Ow P H0 F H p o) (c : Sx P' F H F' H') (n : ¬ P' p) : Ow P H0 F' H' p o := by
 refine ⟨?_,c.same p o w.at_ n,w.mine⟩
 cases q : F' p with
 | none => rfl
 | some u =>
  rcases c.new p u q w.fr with z | z
  ·rw [w.at_] at z
   cases z
  ·exact absurd z n
theorem Ow.call0 (w : Ow P H0 F H p o) (c : Sx P0 F H F' H') : Ow P H0 F' H' p o := w.call c fun z => z
theorem Ow.ne (w : Ow P H0 F H p o) (h : H q = none) : p ≠ q := ne_of_none w.at_ h
theorem Ow.temp (w : Ow P H0 F H p o) (h : H q = none) : Ow P H0 F (upd H q u) p o := ⟨w.fr,by rw [upd_ne (w.ne h)]; exact w.at_,w.mine⟩
theorem Ow.alloc (w : Ow P H0 F H p o) (h : H q = none) : Ow P H0 (upd F q u) (upd H q u) p o := ⟨by rw [upd_ne (w.ne h)]; exact w.fr,by rw [upd_ne (w.ne h)]; exact w.at_,w.mine⟩
theorem Ow.put (w : Ow P H0 F H p o) : Ow P H0 F (upd H p u) p u := ⟨w.fr,upd_same,w.mine⟩
theorem Ow.putO {o' : HO} (w : Ow P H0 F H p o) (n : p ≠ q) : Ow P H0 F (upd H q o') p o := ⟨w.fr,by rw [upd_ne n]; exact w.at_,w.mine⟩
theorem Sx.own (S : Sx P F0 H0 F H) (h : H q = none) : Ow P H0 F (upd H q o) q o := ⟨S.free h,upd_same,.inl (S.free0 h)⟩
theorem Ow.arg (w : Ow P H0 F H p o) : Ow (fun a => a = p) H F H p o := ⟨w.fr,w.at_,.inr rfl⟩
theorem Ow.back {o' : HO} (w : Ow P H0 F H p o) (z : Ow (fun a => a = p) H F' H' p o') : Ow P H0 F' H' p o' := ⟨z.fr,z.at_,w.mine⟩
end
end Gl
namespace Gl
open PySem PySem.Spec PyProof.Rows L2
theorem if_b {β : Type} {b : Bool} {A B : Prop} {m1 m2 : Option β} {r : β} (hm : (if b = true then m1 else m2) = some r) (h1 : b = true → m1 = some r → A) (h2 : b = false → m2 = some r → B) : if b = true then A else B := by
 cases b with
 | true => exact h1 rfl hm
 | false => exact h2 rfl hm
theorem if_j {b : Bool} {A B : Prop} (h1 : b = true → A) (h2 : b = false → B) : if b = true then A else B := by
 cases b with
 | true => exact h1 rfl
 | false => exact h2 rfl
theorem and_j {b : Bool} {u : (Bool → Hp → Prop) → Prop} {Q : Bool → Hp → Prop} {H : Hp} (J : Bool → Hp → Prop) (h1 : b = true → ∀ Q' : Bool → Hp → Prop,(∀ c H',J c H' → Q' c H') → u Q') (h2 : b = false → J false H) (k : ∀ c H',J c H' → Q c H') : if b = true then u Q else Q false H := by
 cases b with
 | true => exact h1 rfl Q k
 | false => exact k _ _ (h2 rfl)
theorem or_j {b : Bool} {u : (Bool → Hp → Prop) → Prop} {Q : Bool → Hp → Prop} {H : Hp} (J : Bool → Hp → Prop) (h1 : b = false → ∀ Q' : Bool → Hp → Prop,(∀ c H',J c H' → Q' c H') → u Q') (h2 : b = true → J true H) (k : ∀ c H',J c H' → Q c H') : if b = true then Q true H else u Q := by
 cases b with
 | true => exact k _ _ (h2 rfl)
 | false => exact h1 rfl Q k
theorem andV_j {b : Bool} {u : VK → Prop} {Q : VK} {H : Hp} (J : V → Hp → Prop) (h1 : b = true → ∀ Q' : VK,(∀ c H',J c H' → Q' c H') → u Q') (h2 : b = false → J (.bl false) H) (k : ∀ c H',J c H' → Q c H') : if b = true then u Q else Q (.bl false) H := by
 cases b with
 | true => exact h1 rfl Q k
 | false => exact k _ _ (h2 rfl)
theorem and_p {b c : Bool} {u : (Bool → Hp → Prop) → Prop} {Q : Bool → Hp → Prop} {H : Hp} (hu : b = true → ∀ Q' : Bool → Hp → Prop,Q' c H → u Q') (k : Q (b && c) H) : if b = true then u Q else Q false H := by
 cases b with
 | true => exact hu rfl Q k
 | false => exact k
theorem or_p {b c : Bool} {u : (Bool → Hp → Prop) → Prop} {Q : Bool → Hp → Prop} {H : Hp} (hu : b = false → ∀ Q' : Bool → Hp → Prop,Q' c H → u Q') (k : Q (b || c) H) : if b = true then Q true H else u Q := by
 cases b with
 | true => exact k
 | false => exact hu rfl Q k
theorem andV_p {b c : Bool} {u : VK → Prop} {Q : VK} {H : Hp} (hu : b = true → ∀ Q' : VK,Q' (.bl c) H → u Q') (k : Q (.bl (b && c)) H) : if b = true then u Q else Q (.bl false) H := by
 cases b with
 | true => exact hu rfl Q k
 | false => exact k
theorem orV_p {b c : Bool} {u : VK → Prop} {Q : VK} {H : Hp} (hu : b = false → ∀ Q' : VK,Q' (.bl c) H → u Q') (k : Q (.bl (b || c)) H) : if b = true then Q (.bl true) H else u Q := by
 cases b with
 | true => exact k
 | false => exact hu rfl Q k
section
variable {X : Cx}
theorem Zc5 : OpR X (compareOp .Eq) (rI0 fun i j => .bl (decide (i = j))) := opB0 fun _ _ _ _ _ _ _ h => eq_int (by rw [Bool.beq_eq_decide_eq]; exact h)
def rS0 (g : Str → Str → V) : R2 := fun x y H Q => ∃ i j,x = .str i ∧ y = .str j ∧ Q (g i j) H
theorem dec_strV {i j : Str} : decide (V.str i = V.str j) = decide (i = j) := by
 by_cases e : i = j
 ·subst e; simp
 ·rw [decide_eq_false e,decide_eq_false fun z => e (V.str.inj z)]
theorem dec_blV {i j : Bool} : decide (V.bl i = V.bl j) = decide (i = j) := by cases i <;> cases j <;> rfl
theorem Zb1 : OpR X (compareOp .Eq) (rS0 fun i j => .bl (decide (i = j))) := by
 intro pins s σ H x y v u Q I rx ry h
 obtain ⟨i,j,rfl,rfl,q⟩ := h
 exact op_eq pins s σ H _ _ v u Q I rx ry ⟨rfl,by rw [dec_strV]; exact q⟩
theorem op_neS : OpR X (compareOp .NotEq) (rS0 fun i j => .bl (!decide (i = j))) := by
 intro pins s σ H x y v u Q I rx ry h
 obtain ⟨i,j,rfl,rfl,q⟩ := h
 exact op_ne pins s σ H _ _ v u Q I rx ry ⟨rfl,by rw [dec_strV]; exact q⟩
def rB0 (g : Bool → Bool → V) : R2 := fun x y H Q => ∃ i j,x = .bl i ∧ y = .bl j ∧ Q (g i j) H
theorem op_eqB : OpR X (compareOp .Eq) (rB0 fun i j => .bl (decide (i = j))) := by
 intro pins s σ H x y v u Q I rx ry h
 obtain ⟨i,j,rfl,rfl,q⟩ := h
 exact op_eq pins s σ H _ _ v u Q I rx ry ⟨rfl,by rw [dec_blV]; exact q⟩
theorem op_neB : OpR X (compareOp .NotEq) (rB0 fun i j => .bl (!decide (i = j))) := by
 intro pins s σ H x y v u Q I rx ry h
 obtain ⟨i,j,rfl,rfl,q⟩ := h
 exact op_ne pins s σ H _ _ v u Q I rx ry ⟨rfl,by rw [dec_blV]; exact q⟩
end
def inS (i j : Str) : Bool := !(Builtin.Str.occurrences j i 0 j.length 1).isEmpty
def Zja (a b : Int) : Bool := (decide (-(2 ^ 64) < a) && decide (a < 2 ^ 64)) || (decide (-(2 ^ 64) < b) && decide (b < 2 ^ 64))
theorem Zhh {a b : Int} (h : Zja a b = true) : CMul a b := by
 unfold Zja at h
 simp only [Bool.or_eq_true,Bool.and_eq_true,decide_eq_true_eq] at h
 exact h
def divOk (b : Int) : Bool := decide (0 < b) && decide (b < 1073741824)
theorem divOk_of {a b : Int} (h : divOk b = true) : CDiv a b := by
 unfold divOk at h
 simp only [Bool.and_eq_true,decide_eq_true_eq] at h
 exact h
def Zjx (b : Int) : Bool := decide (0 < b)
theorem Zfh {b : Int} (h : Zjx b = true) : 0 < b := of_decide_eq_true h
def powOk (a b : Int) : Bool := decide (0 ≤ b) && (decide (b ≤ 1000000) && decide (a.natAbs < 2 ^ 64))
theorem powOk_of {a b : Int} (h : powOk a b = true) : CPow a b := by
 unfold powOk at h
 simp only [Bool.and_eq_true,decide_eq_true_eq] at h
 exact h
def Zee (a b : Str) : Bool := decide (a.length + b.length ≤ sizeLine)
theorem catOk_of {a b : Str} (h : Zee a b = true) : a.length + b.length ≤ sizeLine := of_decide_eq_true h
def fits {α : Type} (a : List α) : Bool := decide (a.length < sizeLine)
def Zb0 (a : Str) : Bool := decide (a.length ≤ sizeLine)
theorem Zir {a : Str} (h : Zb0 a = true) : a.length ≤ sizeLine := of_decide_eq_true h
def Zk2 {α : Type} (a b : List α) : Bool := decide (a.length + b.length ≤ sizeLine)
def ixS (s : Str) (i : Int) : Option Str := gd (Zb0 s) ((atI s.cps.toList i).bind fun c => some ⟨#[c]⟩)
theorem ixS_some {s z : Str} {i : Int} (h : ixS s i = some z) : ∃ c,s.length ≤ sizeLine ∧ atI s.cps.toList i = some c ∧ z = ⟨#[c]⟩ := by
 obtain ⟨h1,h2⟩ := Zae h
 obtain ⟨c,h3,h4⟩ := Zab h2
 exact ⟨c,Zir h1,h3,(Option.some.inj h4).symm⟩
def cut {α : Type} (xs : List α) (lo hi : Option Int) : List α := (xs.drop (HT.sIx xs.length 0 lo)).take (HT.sIx xs.length xs.length hi - HT.sIx xs.length 0 lo)
def rng (a b : Int) : List Int := (List.range (b - a).toNat).map fun i => a + (i : Nat)
def maxI (i j : Int) : Int := if j > i then j else i
def minI (i j : Int) : Int := if j < i then j else i
def b2I (b : Bool) : Int := if b then 1 else 0
def sgns (z : Str) : List Str := z.cps.toList.map fun c => ⟨#[c]⟩
section
variable {α : Type} {A : R α} {K : PySem.W.Frag} {F H F0 H0 : Hp} {P : Addr → Prop} {v : V} {xs ys : List α} {Q : VK} {i : Int} {a : α} {p : Addr} {vs : List V}
def SeenL (A : R α) (K : PySem.W.Frag) (F H : Hp) (v : V) (xs : List α) : Prop := ∃ p vs,v = .ref p ∧ H p = some (.lst vs) ∧ Row A K F vs xs
def SeenR (A : R α) (K : PySem.W.Frag) (F H : Hp) (v : V) (xs : List α) : Prop := ∃ p vs,v = .ref p ∧ SqL K H p vs ∧ Row A K F vs xs
def SeenT (A : R α) (K : PySem.W.Frag) (F H : Hp) (v : V) (xs : List α) : Prop := ∃ p vs,v = .ref p ∧ SqT K H p vs ∧ Row A K F vs xs
def SeenQ (A : R α) (K : PySem.W.Frag) (F H : Hp) (v : V) (xs : List α) : Prop := SeenR A K F H v xs ∨ SeenT A K F H v xs
theorem SeenL.r (h : SeenL A K F H v xs) : SeenR A K F H v xs := let ⟨p,vs,h1,h2,h3⟩ := h; ⟨p,vs,h1,SqL.of h2,h3⟩
theorem Sx.l (S : Sx P F0 H0 F H) (r : (qL A).r K F v xs) : SeenL A K F H v xs := let ⟨p,vs,h1,h2,h3⟩ := r; ⟨p,vs,h1,S.sub _ _ h2,h3⟩
theorem Sx.t (S : Sx P F0 H0 F H) (r : (qT A).r K F v xs) : SeenT A K F H v xs := let ⟨p,vs,h1,h2,h3⟩ := r; ⟨p,vs,h1,Zdu S.sub h2,h3⟩
theorem Sx.q (S : Sx P F0 H0 F H) (r : (qQ A).r K F v xs) : SeenQ A K F H v xs := r.elim (fun r => .inl (S.l r).r) fun r => .inr (S.t r)
theorem Ow.l (w : Ow P H0 F H p (.lst vs)) (r : Row A K F vs xs) : SeenL A K F H (.ref p) xs := ⟨p,vs,rfl,w.at_,r⟩
theorem SeenL.q (h : SeenL A K F H v xs) : SeenQ A K F H v xs := .inl h.r
theorem SeenR.q (h : SeenR A K F H v xs) : SeenQ A K F H v xs := .inl h
theorem SeenT.q (h : SeenT A K F H v xs) : SeenQ A K F H v xs := .inr h
theorem SeenQ.seq (h : SeenQ A K F H v xs) : ∃ p vs,v = .ref p ∧ (SqL K H p vs ∨ SqT K H p vs) ∧ Row A K F vs xs := by
 rcases h with ⟨p,vs,rfl,h,r⟩ | ⟨p,vs,rfl,h,r⟩
 ·exact ⟨p,vs,rfl,.inl h,r⟩
 ·exact ⟨p,vs,rfl,.inr h,r⟩
def qC : R (List Int) := ⟨fun K F v xs => ∃ p,v = .ref p ∧ SqL K F p (xs.map V.int),fun e ⟨p,h1,h2⟩ => ⟨p,h1,Same.seq e h2⟩⟩
theorem row_ints {K : PySem.W.Frag} {F : Hp} : ∀ xs : List Int,Row qI K F (xs.map V.int) xs
 | [] => .nil
 | _ :: xs => .cons rfl (row_ints xs)
theorem Sx.c {xs : List Int} (S : Sx P F0 H0 F H) (r : qC.r K F v xs) : SeenR qI K F H v xs := let ⟨p,h1,h2⟩ := r; ⟨p,_,h1,Same.seq S.sub h2,row_ints xs⟩
theorem row_at (r : Row A K F vs xs) (h : atI xs i = some a) : ∃ u,atI vs i = some u ∧ A.r K F u a := by
 unfold atI at h ⊢
 rw [pLen r]
 obtain ⟨j,h1,h2⟩ := Zab h
 obtain ⟨u,h3,h4⟩ := pGet r h2
 exact ⟨u,by rw [h1]; exact h3,h4⟩
theorem row_cut (r : Row A K F vs xs) (lo hi : Option Int) : Row A K F (cutV vs lo hi) (cut xs lo hi) := by
 unfold cutV cut
 rw [pLen r]
 exact pTake _ (pDrop _ r)
theorem Zbp (s : SeenR A K F H v xs) (h : atI xs i = some a) (k : ∀ u,A.r K F u a → Q u H) : rIxL K v (.int i) H Q := by
 obtain ⟨p,vs,rfl,h1,r⟩ := s
 obtain ⟨u,h2,h3⟩ := row_at r h
 exact ⟨p,vs,i,u,rfl,rfl,h1,h2,k u h3⟩
theorem rd_ixT (s : SeenT A K F H v xs) (h : atI xs i = some a) (k : ∀ u,A.r K F u a → Q u H) : rIxT K v (.int i) H Q := by
 obtain ⟨p,vs,rfl,h1,r⟩ := s
 obtain ⟨u,h2,h3⟩ := row_at r h
 exact ⟨p,vs,i,u,rfl,rfl,h1,h2,k u h3⟩
theorem rd_len (s : SeenQ A K F H v xs) (k : Q (.int (xs.length : Int)) H) : ∃ p ys,[v] = [V.ref p] ∧ (SqL K H p ys ∨ SqT K H p ys) ∧ Q (.int (ys.length : Int)) H := by
 obtain ⟨p,vs,rfl,h1,r⟩ := s.seq
 exact ⟨p,vs,rfl,h1,by rw [pLen r]; exact k⟩
def nK (Q : VK) (H : Hp) (o : HO) : Prop := ∀ p,H p = none → Q (.ref p) (upd H p o)
def nL (A : R α) (K : PySem.W.Frag) (F : Hp) (Q : VK) (H : Hp) (xs : List α) : Prop := ∀ p us,H p = none → Row A K F us xs → Q (.ref p) (upd H p (.lst us))
def nT (A : R α) (K : PySem.W.Frag) (F : Hp) (Q : VK) (H : Hp) (xs : List α) : Prop := ∀ p us,H p = none → Row A K F us xs → Q (.ref p) (upd H p (.tup us))
theorem Zj3 {lo hi : Option Int} (s : SeenR A K F H v xs) (k : nL A K F Q H (cut xs lo hi)) : rSlL K v lo hi H Q := by
 obtain ⟨p,vs,rfl,h1,r⟩ := s
 exact ⟨p,vs,rfl,h1,fun q hq => k q _ hq (row_cut r lo hi)⟩
theorem rd_tuple (s : SeenR A K F H v xs) (k : nT A K F Q H xs) : kTup K v H Q := by
 obtain ⟨p,vs,rfl,h1,r⟩ := s
 exact .inl ⟨p,vs,rfl,h1,fun q hq => k q _ hq r⟩
theorem rd_cat (s : SeenL A K F H v xs) {w : V} (t : SeenL A K F H w ys) (h : Zk2 xs ys = true) (k : nL A K F Q H (xs ++ ys)) : rCat v w H Q := by
 obtain ⟨p,vs,rfl,h1,r⟩ := s
 obtain ⟨q,us,rfl,h2,r2⟩ := t
 exact ⟨p,q,vs,us,rfl,rfl,h1,h2,by rw [pLen r,pLen r2]; exact of_decide_eq_true h,fun z hz => k z _ hz (pApp r r2)⟩
theorem rd_app (w : Ow P H0 F H p (.lst vs)) (r : Row A K F vs xs) {y : V} (h : fits xs = true) (k : Q .non (upd H p (.lst (vs ++ [y])))) : rAppend (.ref p) [y] H Q :=
 ⟨p,vs,y,rfl,rfl,w.at_,by rw [pLen r]; exact of_decide_eq_true h,k⟩
theorem rd_extend (w : Ow P H0 F H p (.lst vs)) (r : Row A K F vs xs) {b : V} {ys : List α} (s : SeenL A K F H b ys) (h : Zk2 xs ys = true) (k : ∀ us,Row A K F us ys → Q .non (upd H p (.lst (vs ++ us)))) : rExtend (.ref p) [b] H Q := by
 obtain ⟨q,us,rfl,h2,r2⟩ := s
 exact ⟨p,q,vs,us,rfl,rfl,w.at_,h2,by rw [pLen r,pLen r2]; exact of_decide_eq_true h,k us r2⟩
theorem Ow.ty (w : Ow P H0 F H p (.lst vs)) : tyV K "list" (.ref p) H := .inl ⟨rfl,vs,SqL.of w.at_⟩
end
theorem inV_str {K : PySem.W.Frag} {F : Hp} {a : Str} : ∀ {vs : List V} {xs : List Str},Row qS K F vs xs → inV (.str a) vs = decide (a ∈ xs) ∧ vs.all flatV = true
 | _,_,.nil => ⟨rfl,rfl⟩
 | v :: vs,x :: xs,.cons r t => by
  obtain ⟨h1,h2⟩ := inV_str (a := a) t
  cases (show v = .str x from r)
  refine ⟨?_,?_⟩
  ·show (eqV (.str x) (.str a) || inV (.str a) vs) = _
   rw [h1]
   show ((x == a) || decide (a ∈ xs)) = decide (a ∈ x :: xs)
   by_cases e : a = x
   ·subst e; simp
   ·have e2 : (x == a) = false := beq_eq_false_iff_ne.mpr (Ne.symm e)
    rw [e2]; simp [e]
  ·show (flatV (.str x) && vs.all flatV) = true
   rw [h2]; rfl
theorem inV_int {K : PySem.W.Frag} {F : Hp} {a : Int} : ∀ {vs : List V} {xs : List Int},Row qI K F vs xs → inV (.int a) vs = decide (a ∈ xs) ∧ vs.all flatV = true
 | _,_,.nil => ⟨rfl,rfl⟩
 | v :: vs,x :: xs,.cons r t => by
  obtain ⟨h1,h2⟩ := inV_int (a := a) t
  cases (show v = .int x from r)
  refine ⟨?_,?_⟩
  ·show (eqV (.int x) (.int a) || inV (.int a) vs) = _
   rw [h1]
   show ((x == a) || decide (a ∈ xs)) = decide (a ∈ x :: xs)
   by_cases e : a = x
   ·subst e; simp
   ·have e2 : (x == a) = false := beq_eq_false_iff_ne.mpr (Ne.symm e)
    rw [e2]; simp [e]
  ·show (flatV (.int x) && vs.all flatV) = true
   rw [h2]; rfl
section
variable {K : PySem.W.Frag} {F H : Hp} {v : V} {Q : VK}
theorem rd_inS {xs : List Str} {a : Str} (s : SeenQ qS K F H v xs) (k : Q (.bl (decide (a ∈ xs))) H) : rIn K false (.str a) v H Q := by
 obtain ⟨p,vs,rfl,h1,r⟩ := s.seq
 obtain ⟨e1,e2⟩ := inV_str (a := a) r
 exact ⟨p,vs,rfl,h1,rfl,e2,by show Q (.bl (inV (.str a) vs)) H; rw [e1]; exact k⟩
theorem rd_niS {xs : List Str} {a : Str} (s : SeenQ qS K F H v xs) (k : Q (.bl (!decide (a ∈ xs))) H) : rIn K true (.str a) v H Q := by
 obtain ⟨p,vs,rfl,h1,r⟩ := s.seq
 obtain ⟨e1,e2⟩ := inV_str (a := a) r
 exact ⟨p,vs,rfl,h1,rfl,e2,by show Q (.bl (!inV (.str a) vs)) H; rw [e1]; exact k⟩
theorem rd_inI {xs : List Int} {a : Int} (s : SeenQ qI K F H v xs) (k : Q (.bl (decide (a ∈ xs))) H) : rIn K false (.int a) v H Q := by
 obtain ⟨p,vs,rfl,h1,r⟩ := s.seq
 obtain ⟨e1,e2⟩ := inV_int (a := a) r
 exact ⟨p,vs,rfl,h1,rfl,e2,by show Q (.bl (inV (.int a) vs)) H; rw [e1]; exact k⟩
theorem rd_niI {xs : List Int} {a : Int} (s : SeenQ qI K F H v xs) (k : Q (.bl (!decide (a ∈ xs))) H) : rIn K true (.int a) v H Q := by
 obtain ⟨p,vs,rfl,h1,r⟩ := s.seq
 obtain ⟨e1,e2⟩ := inV_int (a := a) r
 exact ⟨p,vs,rfl,h1,rfl,e2,by show Q (.bl (!inV (.int a) vs)) H; rw [e1]; exact k⟩
end
structure Dat {α : Type} (A : R α) where
 d : α → PyData
 dp : ∀ {K : PySem.W.Frag} {F : Hp} {v : V} {a : α},A.r K F v a → Dp K F v (d a)
 eq : ∀ a b : α,PyData.eqv (d a) (d b) = true ↔ a = b
mutual
theorem Dp.mono {K : PySem.W.Frag} {F F' : Hp} (e : Same F F') : ∀ {v : V} {d : PyData},Dp K F v d → Dp K F' v d
 | _,_,.non => .non
 | _,_,.bl b => .bl b
 | _,_,.int i => .int i
 | _,_,.str x => .str x
 | _,_,.lst h a => .lst (Same.seq e h) (DpAll.mono e a)
 | _,_,.tup h a => .tup (Zdu e h) (DpAll.mono e a)
theorem DpAll.mono {K : PySem.W.Frag} {F F' : Hp} (e : Same F F') : ∀ {vs : List V} {ds : List PyData},DpAll K F vs ds → DpAll K F' vs ds
 | _,_,.nil => .nil
 | _,_,.cons h a => .cons (Dp.mono e h) (DpAll.mono e a)
end
def dI : Dat qI := ⟨.int,fun {K F v a} h => by cases (show v = .int a from h); exact .int a,fun a b => by simp [PyData.eqv]⟩
def dB : Dat qB := ⟨.bool,fun {K F v a} h => by cases (show v = .bl a from h); exact .bl a,fun a b => by simp [PyData.eqv]⟩
def dS : Dat qS := ⟨.str,fun {K F v a} h => by cases (show v = .str a from h); exact .str a,fun a b => by simp [PyData.eqv]⟩
theorem dpAll {α : Type} {A : R α} (D : Dat A) {K : PySem.W.Frag} {F : Hp} : ∀ {vs : List V} {xs : List α},Row A K F vs xs → DpAll K F vs (xs.map D.d)
 | _,_,.nil => .nil
 | _,_,.cons r t => .cons (D.dp r) (dpAll D t)
theorem Zh4 {α : Type} {A : R α} (D : Dat A) : ∀ xs ys : List α,PyData.eqvAll (xs.map D.d) (ys.map D.d) = true ↔ xs = ys
 | [],[] => by simp [PyData.eqvAll]
 | [],_ :: _ => by simp [PyData.eqvAll]
 | _ :: _,[] => by simp [PyData.eqvAll]
 | x :: xs,y :: ys => by
  show (PyData.eqv (D.d x) (D.d y) && PyData.eqvAll (xs.map D.d) (ys.map D.d)) = true ↔ _
  rw [Bool.and_eq_true,D.eq x y,Zh4 D xs ys]
  simp
def dL {α : Type} {A : R α} (D : Dat A) : Dat (qL A) := ⟨fun xs => .list (xs.map D.d),fun {K F v a} h => by
 obtain ⟨p,vs,rfl,h2,h3⟩ := h
 exact .lst (SqL.of h2) (dpAll D h3),fun a b => Zh4 D a b⟩
def dT {α : Type} {A : R α} (D : Dat A) : Dat (qT A) := ⟨fun xs => .tuple (xs.map D.d),fun {K F v a} h => by
 obtain ⟨p,vs,rfl,h2,h3⟩ := h
 exact .tup h2 (dpAll D h3),fun a b => Zh4 D a b⟩
def d2 {α β : Type} {A : R α} {B : R β} (D : Dat A) (E : Dat B) : Dat (q2 A B) := ⟨fun x => .tuple [D.d x.1,E.d x.2],fun {K F v a} h => by
 obtain ⟨p,u,w,rfl,h2,h3,h4⟩ := h
 exact .tup h2 (.cons (D.dp h3) (.cons (E.dp h4) .nil)),fun a b => by
 show (PyData.eqv (D.d a.1) (D.d b.1) && (PyData.eqv (E.d a.2) (E.d b.2) && true)) = true ↔ _
 rw [Bool.and_eq_true,Bool.and_eq_true,D.eq,E.eq]
 obtain ⟨a1,a2⟩ := a
 obtain ⟨b1,b2⟩ := b
 simp⟩
def shp {α : Type} {A : R α} (D : Dat A) (a : α) : Bool := SeqAt.shaped (D.d a)
section
variable {α : Type} {A : R α} {K : PySem.W.Frag} {F H F0 H0 : Hp} {P : Addr → Prop} {v w : V} {a b : α} {Q : VK} [DecidableEq α]
theorem SeenR.dp {α : Type} {A : R α} {K : PySem.W.Frag} {F H : Hp} {v : V} {xs : List α} (S : Same F H) (D : Dat A) (h : SeenR A K F H v xs) : Dp K H v (.list (xs.map D.d)) := let ⟨p,vs,h1,h2,h3⟩ := h; by subst h1; exact .lst h2 (dpAll D (Row.mono S h3))
theorem eqv_dec (D : Dat A) (a b : α) : PyData.eqv (D.d a) (D.d b) = decide (a = b) := by
 by_cases e : a = b
 ·rw [(D.eq a b).mpr e,decide_eq_true e]
 ·rw [decide_eq_false e]
  cases h : PyData.eqv (D.d a) (D.d b) with
  | false => rfl
  | true => exact absurd ((D.eq a b).mp h) e
def SeenD (D : Dat A) (K : PySem.W.Frag) (H : Hp) (v : V) (a : α) : Prop := Dp K H v (D.d a)
theorem Sx.d (S : Sx P F0 H0 F H) (D : Dat A) (r : A.r K F v a) : SeenD D K H v a := Dp.mono S.sub (D.dp r)
theorem rd_neD {D : Dat A} (s : SeenD D K H v a) (t : SeenD D K H w b) (h1 : shp D a = true) (h2 : shp D b = true) (k : Q (.bl (!decide (a = b))) H) : rNeD K v w H Q :=
 ⟨_,_,s,t,h1,h2,by rw [eqv_dec]; exact k⟩
end
section
variable {α : Type} {A : R α} {K : PySem.W.Frag} {F H F0 H0 : Hp} {P : Addr → Prop} {p : Addr} {vs : List V} {xs : List α}
theorem Sx.cd {v : V} {xs : List Int} (S : Sx P F0 H0 F H) (r : qC.r K F v xs) : SeenD (dL dI) K H v xs := SeenR.dp S.sub dI (S.c r)
theorem Ow.d (w : Ow P H0 F H p (.lst vs)) (S : Sx P F0 H0 F H) (D : Dat A) (r : Row A K F vs xs) : SeenD (dL D) K H (.ref p) xs := .lst (SqL.of w.at_) (dpAll D (Row.mono S.sub r))
end
end Gl
namespace Gl
open PySem PySem.Spec PyProof.Rows L2
def Zbt {α S : Type} (f : α → S → Option S) : List α → S → Option S
 | [],s => some s
 | x :: xs,s => (f x s).bind fun s' => Zbt f xs s'
def Zh3 {α S ρ : Type} (f : α → S → Option (Ctl S ρ)) : List α → S → Option (Ctl S ρ)
 | [],s => some (.nx s)
 | x :: xs,s => (f x s).bind fun c => match c with
  | .nx s' => Zh3 f xs s'
  | .bk s' => some (.nx s')
  | .rt r => some (.rt r)
def aft {S ρ : Type} (c : Ctl S ρ) (k : S → Option ρ) : Option ρ := match c with
 | .nx s => k s
 | .bk s => k s
 | .rt r => some r
def fuel : Nat := 1000000000
def Zdh {S : Type} (c : S → Option (Bool × S)) (f : S → Option S) : Nat → S → Option S
 | 0,_ => none
 | n + 1,s => (c s).bind fun b => if b.1 = true then (f b.2).bind fun s' => Zdh c f n s' else some b.2
def Zh5 {S ρ : Type} (c : S → Option (Bool × S)) (f : S → Option (Ctl S ρ)) : Nat → S → Option (Ctl S ρ)
 | 0,_ => none
 | n + 1,s => (c s).bind fun b => if b.1 = true then (f b.2).bind fun c' => match c' with
  | .nx s' => Zh5 c f n s'
  | .bk s' => some (.nx s')
  | .rt r => some (.rt r) else some (.nx b.2)
structure Feeds (J : It) (n : Nat) (G : Hp → Prop) (it : Nat → V → Prop) : Prop where
 go : ∀ i H,i < n → G H → J.go i H
 stop : ∀ H,G H → J.stop n H
 yld : ∀ i H x H',i < n → G H → J.yld i H x H' → H' = H ∧ it i x
theorem Zgd {K : PySem.W.Frag} {a : Addr} {vs : List V} : Feeds (Itl K a) vs.length (fun H => SqL K H a vs) (fun i x => vs[i]? = some x) :=
 ⟨fun i H h q => ⟨vs,vs[i],q,by simp [h]⟩,fun H q => ⟨vs,q,Nat.le_refl _⟩,fun i H x H' h q y => ⟨y.1,y.2 vs q⟩⟩
theorem feedsT {K : PySem.W.Frag} {a : Addr} {vs : List V} : Feeds (Itt K a) vs.length (fun H => SqT K H a vs) (fun i x => vs[i]? = some x) :=
 ⟨fun i H h q => ⟨vs,vs[i],q,by simp [h]⟩,fun H q => ⟨vs,q,Nat.le_refl _⟩,fun i H x H' h q y => ⟨y.1,y.2 vs q⟩⟩
theorem feedsS {z : Str} : Feeds (Its z) z.cps.size (fun _ => True) (fun i x => ∃ c,z.cps[i]? = some c ∧ x = .str ⟨#[c]⟩) :=
 ⟨fun i H h _ => h,fun H _ => Nat.le_refl _,fun i H x H' h _ y => y⟩
structure Typed {α : Type} (A : R α) (K : PySem.W.Frag) (F : Hp) (n : Nat) (it : Nat → V → Prop) (xs : List α) : Prop where
 len : xs.length = n
 at_ : ∀ i x,it i x → ∃ a,xs[i]? = some a ∧ A.r K F x a
theorem Zcc {α : Type} {A : R α} {K : PySem.W.Frag} {F : Hp} {vs : List V} {xs : List α} (r : Row A K F vs xs) : Typed A K F vs.length (fun i x => vs[i]? = some x) xs :=
 ⟨(pLen r).symm,fun i x h => pGetL r h⟩
theorem Ziu {K : PySem.W.Frag} {F : Hp} {a b : Int} : Typed qI K F (b - a).toNat (fun i x => i < (b - a).toNat ∧ x = .int (a + (i : Nat))) (rng a b) :=
 ⟨by unfold rng; simp,fun i x h => ⟨a + (i : Nat),by unfold rng; simp [h.1],h.2⟩⟩
theorem Zg5 {a b : Int} : Feeds (Itr a (b - a).toNat) (b - a).toNat (fun _ => True) (fun i x => i < (b - a).toNat ∧ x = .int (a + (i : Nat))) :=
 ⟨fun i H h _ => h,fun H _ => Nat.le_refl _,fun i H x H' h _ y => ⟨y.1,h,y.2⟩⟩
theorem typedS {K : PySem.W.Frag} {F : Hp} {z : Str} : Typed qS K F z.cps.size (fun i x => ∃ c,z.cps[i]? = some c ∧ x = .str ⟨#[c]⟩) (sgns z) :=
 ⟨by unfold sgns; simp,fun i x h => by
  obtain ⟨c,h1,h2⟩ := h
  exact ⟨⟨#[c]⟩,by unfold sgns; simp [h1],h2⟩⟩
abbrev ForG (J : It) (g : TG) (tb : TS) (D : Ends) (σ : L2.St) (H : Hp) : Prop :=
 ∃ W : Nat → Nat → L2.St → Hp → Prop,(∃ m,W 0 m σ H) ∧ ∀ i m σ H,W i m σ H →
  (J.stop i H ∧ D.nx σ H) ∨ (J.go i H ∧ ∃ N : L2.St → Hp → Prop,(∀ σ' H',N σ' H' → ∃ m',m' < m ∧ W (i + 1) m' σ' H') ∧ ∀ x H',J.yld i H x H' → g x σ H' fun σ2 H2 => tb { D with nx := N,ct := N,bk := D.nx } σ2 H2)
section
variable {J : It} {n : Nat} {G : Hp → Prop} {it : Nat → V → Prop} {α S ρ : Type} {A : R α} {K : PySem.W.Frag} {F : Hp} {xs : List α} {g : TG} {tb : TS} {σ : L2.St} {H : Hp} {Nx Bx Cx : L2.St → Hp → Prop} {Rx : VK}
theorem loopS_at {f : α → S → Option S} {i : Nat} {a : α} {s s1 : S} (h : Zbt f (xs.drop i) s = some s1) (ha : xs[i]? = some a) : ∃ s',f a s = some s' ∧ Zbt f (xs.drop (i + 1)) s' = some s1 := by
 have hi : i < xs.length := (List.getElem?_eq_some_iff.mp ha).1
 have e : xs.drop i = a :: xs.drop (i + 1) := by
  rw [List.drop_eq_getElem_cons hi]
  rw [(List.getElem?_eq_some_iff.mp ha).2]
 rw [e] at h
 exact Zab h
theorem loopC_at {f : α → S → Option (Ctl S ρ)} {i : Nat} {a : α} {s : S} {c1 : Ctl S ρ} (h : Zh3 f (xs.drop i) s = some c1) (ha : xs[i]? = some a) : ∃ c,f a s = some c ∧ (match c with
 | .nx s' => Zh3 f (xs.drop (i + 1)) s'
 | .bk s' => some (.nx s')
 | .rt r => some (.rt r)) = some c1 := by
 have hi : i < xs.length := (List.getElem?_eq_some_iff.mp ha).1
 have e : xs.drop i = a :: xs.drop (i + 1) := by
  rw [List.drop_eq_getElem_cons hi]
  rw [(List.getElem?_eq_some_iff.mp ha).2]
 rw [e] at h
 exact Zab h
theorem Zds (Fd : Feeds J n G it) (Ty : Typed A K F n it xs) {f : α → S → Option S} {s0 s1 : S} (hm : Zbt f xs s0 = some s1) (Iv : S → L2.St → Hp → Prop) (hG : ∀ s σ H,Iv s σ H → G H) (h0 : Iv s0 σ H)
 (turn : ∀ (a : α) (x : V) (s s' : S) (σ : L2.St) (H : Hp),A.r K F x a → Iv s σ H → f a s = some s' → g x σ H fun σ2 H2 => tb ⟨Iv s',Rx,Nx,Iv s'⟩ σ2 H2)
 (done : ∀ σ H,Iv s1 σ H → Nx σ H) : ForG J g tb ⟨Nx,Rx,Bx,Cx⟩ σ H := by
 refine ⟨fun i m σ H => m = n - i ∧ i ≤ n ∧ ∃ s,Iv s σ H ∧ Zbt f (xs.drop i) s = some s1,⟨n,by simp,Nat.zero_le _,s0,h0,hm⟩,?_⟩
 rintro i m σ H ⟨rfl,hi,s,iv,hl⟩
 by_cases hlt : i < n
 ·obtain ⟨a,ha⟩ : ∃ a,xs[i]? = some a := ⟨xs[i]'(by rw [Ty.len]; exact hlt),by simp [Ty.len,hlt]⟩
  obtain ⟨s',e1,e2⟩ := loopS_at hl ha
  refine .inr ⟨Fd.go i H hlt (hG s σ H iv),Iv s',fun σ' H' p' => ⟨n - (i + 1),by omega,rfl,hlt,s',p',e2⟩,fun x H' y => ?_⟩
  obtain ⟨rfl,hx⟩ := Fd.yld i H x H' hlt (hG s σ H iv) y
  obtain ⟨a',ha',r⟩ := Ty.at_ i x hx
  rw [ha] at ha'
  cases ha'
  exact turn a x s s' σ H' r iv e1
 ·have e : i = n := by omega
  subst e
  rw [← Ty.len,List.drop_length] at hl
  cases hl
  exact .inl ⟨Fd.stop H (hG _ σ H iv),done σ H iv⟩
theorem rd_forC (Fd : Feeds J n G it) (Ty : Typed A K F n it xs) {f : α → S → Option (Ctl S ρ)} {s0 : S} {c1 : Ctl S ρ} (hm : Zh3 f xs s0 = some c1) (Iv : S → L2.St → Hp → Prop) (hG : ∀ s σ H,Iv s σ H → G H) (h0 : Iv s0 σ H)
 (turn : ∀ (a : α) (x : V) (s : S) (c : Ctl S ρ) (σ : L2.St) (H : Hp),A.r K F x a → Iv s σ H → f a s = some c → (∀ s' σ' H',c = .bk s' → Iv s' σ' H' → Nx σ' H') → (∀ r,c = .rt r → c1 = .rt r) →
  g x σ H fun σ2 H2 => tb ⟨fun σ' H' => ∃ s',c = .nx s' ∧ Iv s' σ' H',Rx,Nx,fun σ' H' => ∃ s',c = .nx s' ∧ Iv s' σ' H'⟩ σ2 H2)
 (done : ∀ s σ H,c1 = .nx s → Iv s σ H → Nx σ H) : ForG J g tb ⟨Nx,Rx,Bx,Cx⟩ σ H := by
 refine ⟨fun i m σ H => m = n - i ∧ i ≤ n ∧ ∃ s,Iv s σ H ∧ Zh3 f (xs.drop i) s = some c1,⟨n,by simp,Nat.zero_le _,s0,h0,hm⟩,?_⟩
 rintro i m σ H ⟨rfl,hi,s,iv,hl⟩
 by_cases hlt : i < n
 ·obtain ⟨a,ha⟩ : ∃ a,xs[i]? = some a := ⟨xs[i]'(by rw [Ty.len]; exact hlt),by simp [Ty.len,hlt]⟩
  obtain ⟨c,e1,e2⟩ := loopC_at hl ha
  refine .inr ⟨Fd.go i H hlt (hG s σ H iv),fun σ' H' => ∃ s',c = .nx s' ∧ Iv s' σ' H',fun σ' H' p' => ?_,fun x H' y => ?_⟩
  ·obtain ⟨s',rfl,p'⟩ := p'
   exact ⟨n - (i + 1),by omega,rfl,hlt,s',p',e2⟩
  ·obtain ⟨rfl,hx⟩ := Fd.yld i H x H' hlt (hG s σ H iv) y
   obtain ⟨a',ha',r⟩ := Ty.at_ i x hx
   rw [ha] at ha'
   cases ha'
   refine turn a x s c σ H' r iv e1 (fun s' σ' H' e p => ?_) fun r e => ?_
   ·subst e
    exact done s' σ' H' (Option.some.inj e2).symm p
   ·subst e
    exact (Option.some.inj e2).symm
 ·have e : i = n := by omega
  subst e
  rw [← Ty.len,List.drop_length] at hl
  exact .inl ⟨Fd.stop H (hG _ σ H iv),done s σ H (Option.some.inj hl).symm iv⟩
end
section
variable {S ρ : Type} {c : TT} {tb : TS} {σ : L2.St} {H : Hp} {Nx Bx Cx : L2.St → Hp → Prop} {Rx : VK}
theorem Zi2 {cm : S → Option (Bool × S)} {f : S → Option S} {N : Nat} {s0 s1 : S} (hm : Zdh cm f N s0 = some s1) (Iv : S → L2.St → Hp → Prop) (h0 : Iv s0 σ H)
 (turn : ∀ (s : S) (b : Bool × S) (σ : L2.St) (H : Hp) (T : L2.St → Hp → Prop) (E : L2.St → Hp → Prop),Iv s σ H → cm s = some b → (∀ σ' H',b.1 = true → Iv b.2 σ' H' → T σ' H') → (∀ σ' H',b.1 = false → Iv b.2 σ' H' → E σ' H') → c σ H fun b H1 => if b = true then T σ H1 else E σ H1)
 (body : ∀ (s s' : S) (σ : L2.St) (H : Hp),Iv s σ H → f s = some s' → tb ⟨Iv s',Rx,Nx,Iv s'⟩ σ H)
 (done : ∀ σ H,Iv s1 σ H → Nx σ H) : tWhile c tb ⟨Nx,Rx,Bx,Cx⟩ σ H := by
 refine ⟨fun m σ H => ∃ s,Iv s σ H ∧ Zdh cm f m s = some s1,⟨N,s0,h0,hm⟩,?_⟩
 rintro m σ H ⟨s,iv,h⟩
 cases m with
 | zero => cases h
 | succ m =>
  obtain ⟨b,e1,e2⟩ := Zab h
  refine turn s b σ H (fun σ H1 => ∃ N : L2.St → Hp → Prop,(∀ σ' H',N σ' H' → ∃ m',m' < m + 1 ∧ ∃ s,Iv s σ' H' ∧ Zdh cm f m' s = some s1) ∧ tb ⟨N,Rx,Nx,N⟩ σ H1) (fun σ H1 => Nx σ H1) iv e1 (fun σ' H' hb iv' => ?_) fun σ' H' hb iv' => ?_
  ·rw [hb] at e2
   obtain ⟨s',e3,e4⟩ := Zab (show ((f b.2).bind fun s' => Zdh cm f m s') = some s1 from e2)
   exact ⟨Iv s',fun σ2 H2 p => ⟨m,Nat.lt_succ_self _,s',p,e4⟩,body b.2 s' σ' H' iv' e3⟩
  ·rw [hb] at e2
   cases (show some b.2 = some s1 from e2)
   exact done σ' H' iv'
theorem rd_whileC {cm : S → Option (Bool × S)} {f : S → Option (Ctl S ρ)} {N : Nat} {s0 : S} {c1 : Ctl S ρ} (hm : Zh5 cm f N s0 = some c1) (Iv : S → L2.St → Hp → Prop) (h0 : Iv s0 σ H)
 (turn : ∀ (s : S) (b : Bool × S) (σ : L2.St) (H : Hp) (T : L2.St → Hp → Prop) (E : L2.St → Hp → Prop),Iv s σ H → cm s = some b → (∀ σ' H',b.1 = true → Iv b.2 σ' H' → T σ' H') → (∀ σ' H',b.1 = false → Iv b.2 σ' H' → E σ' H') → c σ H fun b H1 => if b = true then T σ H1 else E σ H1)
 (body : ∀ (s : S) (c' : Ctl S ρ) (σ : L2.St) (H : Hp),Iv s σ H → f s = some c' → (∀ s' σ' H',c' = .bk s' → Iv s' σ' H' → Nx σ' H') → (∀ r,c' = .rt r → c1 = .rt r) →
  tb ⟨fun σ' H' => ∃ s',c' = .nx s' ∧ Iv s' σ' H',Rx,Nx,fun σ' H' => ∃ s',c' = .nx s' ∧ Iv s' σ' H'⟩ σ H)
 (done : ∀ s σ H,c1 = .nx s → Iv s σ H → Nx σ H) : tWhile c tb ⟨Nx,Rx,Bx,Cx⟩ σ H := by
 refine ⟨fun m σ H => ∃ s,Iv s σ H ∧ Zh5 cm f m s = some c1,⟨N,s0,h0,hm⟩,?_⟩
 rintro m σ H ⟨s,iv,h⟩
 cases m with
 | zero => cases h
 | succ m =>
  obtain ⟨b,e1,e2⟩ := Zab h
  refine turn s b σ H (fun σ H1 => ∃ N : L2.St → Hp → Prop,(∀ σ' H',N σ' H' → ∃ m',m' < m + 1 ∧ ∃ s,Iv s σ' H' ∧ Zh5 cm f m' s = some c1) ∧ tb ⟨N,Rx,Nx,N⟩ σ H1) (fun σ H1 => Nx σ H1) iv e1 (fun σ' H' hb iv' => ?_) fun σ' H' hb iv' => ?_
  ·rw [hb] at e2
   obtain ⟨c',e3,e4⟩ := Zab (show ((f b.2).bind fun c' => match c' with
    | .nx s' => Zh5 cm f m s'
    | .bk s' => some (.nx s')
    | .rt r => some (.rt r)) = some c1 from e2)
   refine ⟨fun σ' H' => ∃ s',c' = .nx s' ∧ Iv s' σ' H',fun σ2 H2 p => ?_,body b.2 c' σ' H' iv' e3 (fun s' σ2 H2 e p => ?_) fun r e => ?_⟩
   ·obtain ⟨s',rfl,p⟩ := p
    exact ⟨m,Nat.lt_succ_self _,s',p,e4⟩
   ·subst e
    exact done s' σ2 H2 (Option.some.inj e4).symm p
   ·subst e
    exact (Option.some.inj e4).symm
  ·rw [hb] at e2
   exact done b.2 σ' H' (Option.some.inj (show some (.nx b.2) = some c1 from e2)).symm iv'
end
def Zk1 {α : Type} (a : List α) : Bool := decide (a.length ≤ sizeLine)
def comp {α β S : Type} (f : α → S → Option (Option β × S)) : List α → S → Option (List β × S)
 | [],s => some ([],s)
 | x :: xs,s => (f x s).bind fun o => (comp f xs o.2).bind fun r => some (match o.1 with
  | some y => (y :: r.1,r.2)
  | none => r)
abbrev LcG (J : It) (g : TG) (tt : TT) (te : TE) (vs : List Nat) (σ : L2.St) (D : Addr) (Q : VK) (H1 : Hp) : Prop :=
 ∃ W : Nat → Nat → Hp → Prop,(∃ m,W 0 m (upd H1 D (.lst []))) ∧ ∀ i m H,W i m H →
 (J.stop i H ∧ Q (.ref D) H) ∨ (J.go i H ∧ ∃ Nx : Hp → Prop,(∀ H',Nx H' → ∃ m',m' < m ∧ W (i + 1) m' H') ∧ ∀ x H',J.yld i H x H' → g x (wipe σ vs) H' fun σ2 H2 => wipe σ2 vs = wipe σ vs ∧ tt σ2 H2 fun b H3 =>
  if b = true then te σ2 H3 fun y H4 => ∃ acc,H4 D = some (.lst acc) ∧ acc.length < sizeLine ∧ Nx (upd H4 D (.lst (acc ++ [y]))) else Nx H3)
section
variable {J : It} {n : Nat} {G : Hp → Prop} {it : Nat → V → Prop} {α β S : Type} {A : R α} {B : R β} {K : PySem.W.Frag} {F1 H1 : Hp} {xs : List α} {g : TG} {tt : TT} {te : TE} {vs : List Nat} {σ : L2.St} {Q : VK}
theorem comp_at {f : α → S → Option (Option β × S)} {i : Nat} {a : α} {s : S} {r : List β × S} (h : comp f (xs.drop i) s = some r) (ha : xs[i]? = some a) : ∃ o r',f a s = some o ∧ comp f (xs.drop (i + 1)) o.2 = some r' ∧ r = (match o.1 with
 | some y => (y :: r'.1,r'.2)
 | none => r') := by
 have hi : i < xs.length := (List.getElem?_eq_some_iff.mp ha).1
 have e : xs.drop i = a :: xs.drop (i + 1) := by
  rw [List.drop_eq_getElem_cons hi]
  rw [(List.getElem?_eq_some_iff.mp ha).2]
 rw [e] at h
 obtain ⟨o,e1,h2⟩ := Zab h
 obtain ⟨r',e2,h3⟩ := Zab h2
 exact ⟨o,r',e1,e2,(Option.some.inj h3).symm⟩
theorem Zg1 (Fd : Feeds J n G it) (Ty : Typed A K F1 n it xs) {f : α → S → Option (Option β × S)} {s0 : S} {r : List β × S} (hm : comp f xs s0 = some r) (hz : Zk1 xs = true) {Pc : Addr → Prop} (hlv : ∀ a,Pc a → H1 a ≠ none) (hsub : Same F1 H1) (Ex : S → Hp → Hp → Prop)
 (hG : ∀ s F H,Sx Pc F1 H1 F H → Ex s F H → G H) (h0 : Ex s0 F1 H1) (hEx : ∀ s F H q o,Ex s F H → H1 q = none → H q = none → Ex s F (upd H q o)) (hEp : ∀ s F H q u o,Ex s F H → H1 q = none → H q = some u → Ex s F (upd H q o))
 (turn : ∀ (a : α) (x : V) (s : S) (o : Option β × S) (F H : Hp) (D : Addr) (acc : List V),A.r K F1 x a → Sx Pc F1 H1 F H → Ex s F H → Ow Pc H1 F H D (.lst acc) → H1 D = none → f a s = some o →
  ∀ (E : Hp → Prop) (N : V → Hp → Prop),(∀ y b F' H',o.1 = some b → Sx Pc F H F' H' → B.r K F' y b → Ex o.2 F' H' → N y H') → (∀ F' H',o.1 = none → Sx Pc F H F' H' → Ex o.2 F' H' → E H') →
  g x (wipe σ vs) H fun σ2 H2 => wipe σ2 vs = wipe σ vs ∧ tt σ2 H2 fun b H3 => if b = true then te σ2 H3 N else E H3)
 (done : ∀ D us F H,H1 D = none → Sx Pc F1 H1 F H → Ex r.2 F H → Ow Pc H1 F H D (.lst us) → Row B K F us r.1 → Q (.ref D) H) : ∀ D,H1 D = none → LcG J g tt te vs σ D Q H1 := by
 intro D hD
 refine ⟨fun i m H => m = n - i ∧ i ≤ n ∧ ∃ s F acc ys r',Sx Pc F1 H1 F H ∧ Ex s F H ∧ Ow Pc H1 F H D (.lst acc) ∧ Row B K F acc ys ∧ acc.length ≤ i ∧ comp f (xs.drop i) s = some r' ∧ r = (ys ++ r'.1,r'.2),⟨n,by simp,Nat.zero_le _,s0,F1,[],[],r,?_,?_,?_,.nil,Nat.le_refl _,hm,rfl⟩,?_⟩
 ·exact (Sx.refl hsub hlv).temp hD
 ·exact hEx _ _ _ _ _ h0 hD hD
 ·exact (Sx.refl hsub hlv).own hD
 rintro i m H ⟨rfl,hi,s,F,acc,ys,r',S,ex,w,row,hal,hl,hr⟩
 by_cases hlt : i < n
 ·obtain ⟨a,ha⟩ : ∃ a,xs[i]? = some a := ⟨xs[i]'(by rw [Ty.len]; exact hlt),by simp [Ty.len,hlt]⟩
  obtain ⟨o,r2,e1,e2,e3⟩ := comp_at hl ha
  refine .inr ⟨Fd.go i H hlt (hG s F H S ex),fun H' => ∃ s F acc ys r',Sx Pc F1 H1 F H' ∧ Ex s F H' ∧ Ow Pc H1 F H' D (.lst acc) ∧ Row B K F acc ys ∧ acc.length ≤ i + 1 ∧ comp f (xs.drop (i + 1)) s = some r' ∧ r = (ys ++ r'.1,r'.2),fun H' p' => ⟨n - (i + 1),by omega,rfl,hlt,p'⟩,fun x H' y => ?_⟩
  obtain ⟨rfl,hx⟩ := Fd.yld i H x H' hlt (hG s F H S ex) y
  obtain ⟨a',ha',ra⟩ := Ty.at_ i x hx
  rw [ha] at ha'
  cases ha'
  have nD : ∀ F' H'',Sx Pc F H' F' H'' → Ow Pc H1 F' H'' D (.lst acc) := fun F' H'' c => w.call c fun z => hlv D z hD
  have hsz : acc.length < sizeLine := by
   have := of_decide_eq_true hz
   rw [Ty.len] at this
   omega
  refine turn a x s o F H' D acc ra S ex w hD e1 _ _ (fun y b F' H'' ho c rb ex' => ?_) fun F' H'' ho c ex' => ?_
  ·have w' := nD F' H'' c
   have S' : Sx Pc F1 H1 F' H'' := S.call c fun a z => .inl z
   refine ⟨acc,w'.at_,hsz,o.2,F',acc ++ [y],ys ++ [b],r2,S'.put w',hEp _ _ _ _ _ _ ex' hD w'.at_,w'.put,(Row.mono c.le row).snoc rb,by simp; omega,e2,?_⟩
   rw [hr,e3,ho]
   simp
  ·have w' := nD F' H'' c
   have S' : Sx Pc F1 H1 F' H'' := S.call c fun a z => .inl z
   refine ⟨o.2,F',acc,ys,r2,S',ex',w',Row.mono c.le row,by omega,e2,?_⟩
   rw [hr,e3,ho]
 ·have e : i = n := by omega
  subst e
  rw [← Ty.len,List.drop_length] at hl
  cases hl
  refine .inl ⟨Fd.stop H (hG _ F H S ex),?_⟩
  rw [hr] at done
  exact done D acc F H hD S ex w (by simpa using row)
end
section
variable {P : Addr → Prop} {F0 H0 F H : Hp} {Q : VK} {α : Type} {A : R α} {K : PySem.W.Frag}
theorem al {o : HO} (S : Sx P F0 H0 F H) (k : ∀ p H',H p = none → Sx P0 F H F H' → Ow P H0 F H' p o → Q (.ref p) H') : nK Q H o :=
 fun p hp => k p _ hp ((Sx.refl0 S.sub).temp hp) (S.own hp)
theorem alF {o : HO} (S : Sx P F0 H0 F H) (k : ∀ p F' H',Sx P0 F H F' H' → F' p = some o → Q (.ref p) H') : nK Q H o :=
 fun p hp => k p _ _ ((Sx.refl0 S.sub).alloc hp) upd_same
theorem alT {vs : List V} {xs : List α} (S : Sx P F0 H0 F H) (r : Row A K F vs xs) (k : ∀ v F' H',Sx P0 F H F' H' → (qT A).r K F' v xs → Q v H') : nK Q H (.tup vs) :=
 alF S fun p F' H' c h => k _ F' H' c ⟨p,vs,rfl,.inl (.inl h),Row.mono c.le r⟩
theorem alL {vs : List V} {xs : List α} (S : Sx P F0 H0 F H) (r : Row A K F vs xs) (k : ∀ v F' H',Sx P0 F H F' H' → (qL A).r K F' v xs → Q v H') : nK Q H (.lst vs) :=
 alF S fun p F' H' c h => k _ F' H' c ⟨p,vs,rfl,h,Row.mono c.le r⟩
theorem alL' {xs : List α} (S : Sx P F0 H0 F H) (k : ∀ v F' H',Sx P0 F H F' H' → (qL A).r K F' v xs → Q v H') : nL A K F Q H xs :=
 fun p us hp r => alL S r k p hp
theorem alT' {xs : List α} (S : Sx P F0 H0 F H) (k : ∀ v F' H',Sx P0 F H F' H' → (qT A).r K F' v xs → Q v H') : nT A K F Q H xs :=
 fun p us hp r => alT S r k p hp
variable {p : Addr} {vs : List V} {xs : List α}
theorem ap (S : Sx P F0 H0 F H) (w : Ow P H0 F H p (.lst vs)) (r : Row A K F vs xs) {y : V} (h : fits xs = true) (k : ∀ H',Sx (fun a => a = p) F H F H' → Ow P H0 F H' p (.lst (vs ++ [y])) → Q .non H') : rAppend (.ref p) [y] H Q :=
 rd_app w r h (k _ ((Sx.refl S.sub fun a z => by rw [z,w.at_]; exact fun h => nomatch h).put w.arg) w.put)
theorem ex' (S : Sx P F0 H0 F H) (w : Ow P H0 F H p (.lst vs)) (r : Row A K F vs xs) {b : V} {ys : List α} (s : SeenL A K F H b ys) (h : Zk2 xs ys = true) (k : ∀ us H',Sx (fun a => a = p) F H F H' → Ow P H0 F H' p (.lst (vs ++ us)) → Row A K F (vs ++ us) (xs ++ ys) → Q .non H') : rExtend (.ref p) [b] H Q :=
 rd_extend w r s h fun us r2 => k us _ ((Sx.refl S.sub fun a z => by rw [z,w.at_]; exact fun h => nomatch h).put w.arg) w.put (pApp r r2)
theorem fz (S : Sx P F0 H0 F H) (w : Ow P H0 F H p (.lst vs)) (h0 : H0 p = none) (r : Row A K F vs xs) : ∃ F',Sx P F0 H0 F' H ∧ Same F F' ∧ (qL A).r K F' (.ref p) xs ∧ F' p ≠ none ∧ ∀ q,q ≠ p → F' q = F q :=
 ⟨upd F p (.lst vs),S.freeze w h0,w.leF,⟨p,vs,rfl,upd_same,Row.mono w.leF r⟩,by (rw [upd_same]; exact (fun h => nomatch h)),fun q hq => upd_ne hq⟩
theorem Ow.fzO {F' : Hp} {o : HO} {q : Addr} (w : Ow P H0 F H q o) (n : q ≠ p) (e : ∀ q,q ≠ p → F' q = F q) : Ow P H0 F' H q o := ⟨by rw [e q n]; exact w.fr,w.at_,w.mine⟩
end
end Gl
namespace Gl
open PySem PySem.Spec PyProof.Rows L2
def fdDefault : FuncData := PySem.W.fnOf "" "" { posonlyargs := [],args := [],vararg := none,kwonlyargs := [],kw_defaults := [],kwarg := none,defaults := [] } [] { kind := .function,names := [],isGenerator := false,isCoroutine := false } .none .none .none .none none .none .none
def fdOf (K : PySem.W.Frag) (p : Str × Option Str) : FuncData := match K.lookup (He.fAd K p) with
 | some ⟨_,_,.func fd,_⟩ => fd
 | _ => fdDefault
abbrev FnD' (K : PySem.W.Frag) (p : Str × Option Str) (x q : Str) (st : Stmt) : Prop := FunD K x q (defArgs st) (defBody st) (defScope st) [] [] (He.fAd K p) (fdOf K p)
theorem fdOf_eq {K : PySem.W.Frag} {p : Str × Option Str} {x q : Str} {ps : Arguments} {body : List Stmt} {sc : Scope} {dvs : List V} {kws : List (Str × V)} {fd : FuncData} (F : FunD K x q ps body sc dvs kws (He.fAd K p) fd) : fd = fdOf K p := by
 obtain ⟨oc,od,dV,kV,doc,pm,an,cdv,ct,osl,e,lk,_⟩ := F.ex
 unfold fdOf
 rw [lk]
theorem Za9 {fa : List He.Fa} {fn : List He.DefD} {K : PySem.W.Frag} (c : He.SaysD fa fn K) (i : Nat) {d : He.DefD} (h : fn[i]? = some d := by rfl) : FunD K d.name d.qual d.params d.body d.scope (d.dvs K) (d.kws K) (He.fAd K d.at_) (fdOf K d.at_) := by
 obtain ⟨fd,F⟩ := c.def_ i h
 have e := fdOf_eq F
 subst e
 exact F
section
variable {P : Addr → Prop} {F0 H0 F H : Hp} {Q : VK} {K : PySem.W.Frag} {p : Addr} {a b c : V}
theorem pool0 (w : Ow P H0 F H p (.lst [a,b])) (k : Q a H) : rIxL K (.ref p) (.int 0) H Q := ⟨p,[a,b],0,a,rfl,rfl,SqL.of w.at_,rfl,k⟩
theorem pool1 (w : Ow P H0 F H p (.lst [a,b])) (k : Q b H) : rIxL K (.ref p) (.int 1) H Q := ⟨p,[a,b],1,b,rfl,rfl,SqL.of w.at_,rfl,k⟩
theorem putS (S : Sx P F0 H0 F H) {o u : HO} (w : Ow P H0 F H p o) : Sx (fun a => a = p) F H F (upd H p u) := (Sx.refl S.sub fun a z => by rw [z,w.at_]; exact fun h => nomatch h).put w.arg
theorem pset0 {R : Hp → Prop} (S : Sx P F0 H0 F H) (w : Ow P H0 F H p (.lst [a,b])) (k : ∀ H',Sx (fun a => a = p) F H F H' → Ow P H0 F H' p (.lst [c,b]) → R H') : rSetL (.ref p) (.int 0) c H R := ⟨p,[a,b],0,0,rfl,rfl,w.at_,rfl,k _ (putS S w) w.put⟩
theorem pset1 {R : Hp → Prop} (S : Sx P F0 H0 F H) (w : Ow P H0 F H p (.lst [a,b])) (k : ∀ H',Sx (fun a => a = p) F H F H' → Ow P H0 F H' p (.lst [a,c]) → R H') : rSetL (.ref p) (.int 1) c H R := ⟨p,[a,b],1,1,rfl,rfl,w.at_,rfl,k _ (putS S w) w.put⟩
end
end Gl
namespace Gl
open PySem PySem.Spec PyProof.Rows L2
section
variable {σ : L2.St} {H : Hp} {Q : VK} {v : V} {i j : Int} {ta tb tc te : TE} {t u : TT} {r : R2} {D : Ends} {tr : TA} {K : PySem.W.Frag} {b : Bool}
theorem rd_v {i : Nat} (h : σ[i]? = some (some v)) (k : Q v H) : tVar i σ H Q := ⟨v,h,k⟩
theorem rd_c (k : Q v H) : tC v σ H Q := k
theorem Zad (k : ta σ H fun x H1 => tb σ H1 fun y H2 => r x y H2 Q) : tOp r ta tb σ H Q := k
theorem rd_un {r : V → Hp → VK → Prop} (k : ta σ H fun x H1 => r x H1 Q) : tUn r ta σ H Q := k
theorem Zax {g : Int → Int → V} (k : Q (g i j) H) : rI0 g (.int i) (.int j) H Q := ⟨i,j,rfl,rfl,k⟩
theorem rd_I {C : Int → Int → Prop} {g : Int → Int → V} (c : C i j) (k : Q (g i j) H) : rI C g (.int i) (.int j) H Q := ⟨i,j,rfl,rfl,c,k⟩
theorem rd_U {g : Int → V} (k : Q (g i) H) : rU g (.int i) H Q := ⟨i,rfl,k⟩
theorem Zc4 {g : Str → Str → V} {x y : Str} (k : Q (g x y) H) : rS0 g (.str x) (.str y) H Q := ⟨x,y,rfl,rfl,k⟩
theorem rd_B0 {g : Bool → Bool → V} {x y : Bool} (k : Q (g x y) H) : rB0 g (.bl x) (.bl y) H Q := ⟨x,y,rfl,rfl,k⟩
def rCatS : R2 := fun x y H Q => ∃ i j,x = .str i ∧ y = .str j ∧ i.length + j.length ≤ sizeLine ∧ Q (.str (i ++ j)) H
theorem Zb9 {X : Cx} : OpR X (binaryOp .Add) rCatS := op_add_str
theorem Zb7 {x y : Str} (h : Zee x y = true) (k : Q (.str (x ++ y)) H) : rCatS (.str x) (.str y) H Q := ⟨x,y,rfl,rfl,catOk_of h,k⟩
def rInS : R2 := fun x y H Q => ∃ i j,x = .str i ∧ y = .str j ∧ Q (.bl (inS i j)) H
def rNiS : R2 := fun x y H Q => ∃ i j,x = .str i ∧ y = .str j ∧ Q (.bl (!inS i j)) H
theorem Zj4 {X : Cx} : OpR X (compareOp .In) rInS := op_in_str
theorem op_niS {X : Cx} : OpR X (compareOp .NotIn) rNiS := op_notin_str
theorem Zh0 {x y : Str} (k : Q (.bl (inS x y)) H) : rInS (.str x) (.str y) H Q := ⟨x,y,rfl,rfl,k⟩
theorem rd_niSS {x y : Str} (k : Q (.bl (!inS x y)) H) : rNiS (.str x) (.str y) H Q := ⟨x,y,rfl,rfl,k⟩
theorem Zh7 {x z : Str} (h : ixS x i = some z) (k : Q (.str z) H) : rIxS (.str x) (.int i) H Q := by
 obtain ⟨c,h1,h2,rfl⟩ := ixS_some h
 exact ⟨x,i,c,rfl,rfl,h1,h2,k⟩
theorem Zeg {z : Str} {lo hi : Option Int} (h : Zb0 z = true) (k : Q (.str (cutS z lo hi)) H) : rSlS (.str z) lo hi H Q := ⟨z,rfl,Zir h,k⟩
variable {QB : Bool → Hp → Prop}
def bK (QB : Bool → Hp → Prop) : VK := fun x H => ∃ k,x = .bl k ∧ QB k H
theorem Zag (k : te σ H (bK QB)) : tTest te σ H QB := k
theorem Zgz (k : te σ H (bK QB)) : tB te σ H QB := k
theorem rd_b (k : QB b H) : bK QB (.bl b) H := ⟨b,rfl,k⟩
theorem Zfw (k : t σ H fun c H1 => if c = true then u σ H1 QB else QB false H1) : tAnd t u σ H QB := k
theorem Zkm (k : t σ H fun c H1 => if c = true then QB true H1 else u σ H1 QB) : tOr t u σ H QB := k
theorem Zgr (k : t σ H fun c H1 => QB (!c) H1) : tNot t σ H QB := k
theorem Zf4 (k : ta σ H (bK fun c H1 => if c = true then tb σ H1 Q else Q (.bl false) H1)) : tAndV ta tb σ H Q := k
theorem rd_orV (k : ta σ H (bK fun c H1 => if c = true then Q (.bl true) H1 else tb σ H1 Q)) : tOrV ta tb σ H Q := k
theorem rd_ifE (k : t σ H fun c H1 => if c = true then ta σ H1 Q else tb σ H1 Q) : tIf t ta tb σ H Q := k
theorem Zj2 (k : QB true H) : tYes σ H QB := k
variable {QA : List V → Hp → Prop}
theorem Zac (k : QA [] H) : tNil σ H QA := k
theorem Zaa (k : te σ H fun x H1 => tr σ H1 fun xs H2 => QA (x :: xs) H2) : tCons te tr σ H QA := k
theorem Zah {sp : Sp} {dvs : List V} {E : XK} (k : tr σ H fun vs H1 => sp (vs ++ dvs) H1 Q E) : tCall sp dvs E tr σ H Q := k
theorem Zay {r : List V → Hp → VK → Prop} (k : tr σ H fun xs H1 => r xs H1 Q) : tCB r tr σ H Q := k
def lK (Q : VK) : List V → Hp → Prop := fun xs H1 => xs.length ≤ sizeLine ∧ ∀ p,H1 p = none → Q (.ref p) (upd H1 p (.lst xs))
def uK (Q : VK) : List V → Hp → Prop := fun xs H1 => xs.length ≤ sizeLine ∧ ∀ p,H1 p = none → Q (.ref p) (upd H1 p (.tup xs))
theorem Zcz (k : tr σ H (lK Q)) : tLst tr σ H Q := k
theorem Zfg {xs : List V} (h : Nat.ble xs.length 1000 = true) (k : nK Q H (.lst xs)) : lK Q xs H := ⟨Nat.le_trans (Nat.le_of_ble_eq_true h) (by decide),k⟩
theorem rd_uK {xs : List V} (h : Nat.ble xs.length 1000 = true) (k : nK Q H (.tup xs)) : uK Q xs H := ⟨Nat.le_trans (Nat.le_of_ble_eq_true h) (by decide),k⟩
theorem rd_tup (k : tr σ H (uK Q)) : tTup tr σ H Q := k
theorem Ze5 {T : String} {r : V → List V → Hp → VK → Prop} (k : te σ H fun x H1 => tyV K T x H1 ∧ tr σ H1 fun xs H2 => r x xs H2 Q) : tBM K T r te tr σ H Q := k
theorem Ze4 {A B : Prop} (h : A) (k : B) : A ∧ B := ⟨h,k⟩
theorem rd_thn {k' : V → Hp → VK → Prop} (k : te σ H fun x H1 => k' x H1 Q) : tThen te k' σ H Q := k
variable {QO : Option Int → Hp → Prop}
theorem Zel {r : V → Option Int → Option Int → Hp → VK → Prop} {tl th : TO} (k : te σ H fun x H1 => tl σ H1 fun l H2 => th σ H2 fun u H3 => r x l u H3 Q) : tSl r te tl th σ H Q := k
theorem Zf3 (k : QO none H) : tNoPart σ H QO := k
def iK (QO : Option Int → Hp → Prop) : VK := fun x H => ∃ i,x = .int i ∧ QO (some i) H
theorem Zdr (k : te σ H (iK QO)) : tPart te σ H QO := k
theorem rd_i (k : QO (some i) H) : iK QO (.int i) H := ⟨i,rfl,k⟩
def rInt1 : List V → Hp → VK → Prop := fun xs H Q => (∃ i,xs = [.int i] ∧ Q (.int i) H) ∨ ∃ k,xs = [.bl k] ∧ Q (.int (if k then 1 else 0)) H
theorem Zid {X : Cx} : CallR X (.type "int") rInt1 := call_int1
theorem Zg0 (k : Q (.int i) H) : rInt1 [.int i] H Q := .inl ⟨i,rfl,k⟩
theorem rd_intB (k : Q (.int (b2I b)) H) : rInt1 [.bl b] H Q := .inr ⟨b,rfl,k⟩
def rMax2 : List V → Hp → VK → Prop := fun xs H Q => ∃ i j,xs = [.int i,.int j] ∧ Q (.int (if j > i then j else i)) H
theorem cr_max2 {X : Cx} (hc : X.calm = true) : CallR X (.builtin "max") rMax2 := call_max2 hc
theorem rd_max2 (k : Q (.int (maxI i j)) H) : rMax2 [.int i,.int j] H Q := ⟨i,j,rfl,k⟩
def rMin2 : List V → Hp → VK → Prop := fun xs H Q => ∃ i j,xs = [.int i,.int j] ∧ Q (.int (if j < i then j else i)) H
theorem cr_min2 {X : Cx} (hc : X.calm = true) : CallR X (.builtin "min") rMin2 := call_min2 hc
theorem rd_min2 (k : Q (.int (minI i j)) H) : rMin2 [.int i,.int j] H Q := ⟨i,j,rfl,k⟩
def rLenS : List V → Hp → VK → Prop := fun xs H Q => ∃ z,xs = [.str z] ∧ z.length ≤ sizeLine ∧ Q (.int z.length) H
theorem Zeu {X : Cx} : CallR X (.builtin "len") rLenS := call_len_str
theorem Zem {z : Str} (h : Zb0 z = true) (k : Q (.int (z.length : Int)) H) : rLenS [.str z] H Q := ⟨z,rfl,Zir h,k⟩
def Zc9 (K : PySem.W.Frag) : List V → Hp → VK → Prop := fun xs H Q => ∃ p ys,xs = [.ref p] ∧ (SqL K H p ys ∨ SqT K H p ys) ∧ Q (.int ys.length) H
theorem Za3 {X : Cx} : CallR X (.builtin "len") (Zc9 X.K) := call_len_seq
theorem Zbi {α : Type} {A : R α} {F : Hp} {xs : List α} (s : SeenQ A K F H v xs) (k : Q (.int (xs.length : Int)) H) : Zc9 K [v] H Q := rd_len s k
variable {QS : L2.St → Hp → Prop} {g : TG} {ts us : TS} {N B C : L2.St → Hp → Prop} {R : VK}
theorem Zam {i : Nat} (k : QS (σ.set i (some v)) H) : gName i v σ H QS := k
theorem rd_gsub {st : TSet} (k : ta σ H fun o H1 => tb σ H1 fun i H2 => st o i v H2 fun H3 => QS σ H3) : gSub ta tb st v σ H QS := k
theorem Zaf (k : ts ⟨us ⟨N,R,B,C⟩,R,B,C⟩ σ H) : tSeq ts us ⟨N,R,B,C⟩ σ H := k
theorem Zak (k : te σ H fun x H1 => g x σ H1 N) : tAsg te g ⟨N,R,B,C⟩ σ H := k
theorem Zal (k : t σ H fun b H1 => if b = true then ts D σ H1 else us D σ H1) : tIfS t ts us D σ H := k
theorem Zai (k : te σ H R) : tRet te ⟨N,R,B,C⟩ σ H := k
theorem Zc0 (k : te σ H fun _ H1 => N σ H1) : tDrop te ⟨N,R,B,C⟩ σ H := k
theorem Zaj (k : N σ H) : tNext ⟨N,R,B,C⟩ σ H := k
theorem rd_cut (Mid : L2.St → Hp → Prop) (h : ts ⟨Mid,R,B,C⟩ σ H) (k : ∀ σ' H',Mid σ' H' → us ⟨N,R,B,C⟩ σ' H') : C8.tCut ts us ⟨N,R,B,C⟩ σ H := ⟨Mid,h,k⟩
theorem rd_aug {i : Nat} {ti : TIp} {x : V} (h : σ[i]? = some (some x)) (k : te σ H fun y H1 => ti x y H1 fun z H2 => N (σ.set i (some z)) H2) : tAug i te ti ⟨N,R,B,C⟩ σ H := ⟨x,h,k⟩
theorem rd_ipI {f : Int → Int → Int} (k : Q (.int (f i j)) H) : ipI f (.int i) (.int j) H Q := ⟨i,j,rfl,rfl,k⟩
theorem Zdv {wi : TI} (k : wi σ H fun J H1 => ForG J g ts D σ H1) : tFor wi g ts D σ H := k
theorem rd_lc {wi : TI} {vs : List Nat} (k : wi σ H fun J H1 => ∀ D,H1 D = none → LcG J g t te vs σ D Q H1) : tLc wi g t te vs σ H Q := k
variable {RI : It → Hp → Prop}
def wL (K : PySem.W.Frag) (RI : It → Hp → Prop) : VK := fun x H1 => ∃ a,x = .ref a ∧ (∃ xs,SqL K H1 a xs) ∧ RI (Itl K a) H1
def wT (K : PySem.W.Frag) (RI : It → Hp → Prop) : VK := fun x H1 => ∃ a,x = .ref a ∧ (∃ xs,SqT K H1 a xs) ∧ RI (Itt K a) H1
def wS (RI : It → Hp → Prop) : VK := fun v H1 => ∃ x,v = .str x ∧ RI (Its x) H1
def wR1 (RI : It → Hp → Prop) : List V → Hp → Prop := fun vs H1 => ∃ j : Int,vs = [.int j] ∧ -(2 ^ 62) ≤ j ∧ j < 2 ^ 62 ∧ RI (Itr 0 j.toNat) H1
theorem Zjr (k : te σ H (wL K RI)) : iList K te σ H RI := k
theorem rd_iT (k : te σ H (wT K RI)) : iTup K te σ H RI := k
def iSeq (K : PySem.W.Frag) (te : TE) : TI := fun σ H R => iList K te σ H R ∨ iTup K te σ H R
theorem pi_seq {X : Cx} {tg l : Expr} (hl : PE X l te) : PI X tg l (iSeq X.K te) := ⟨fun pins s σ H R I h => h.elim (fun h => (pi_list hl).run pins s σ H R I h) fun h => (pi_tup hl).run pins s σ H R I h⟩
theorem rd_iS (k : te σ H (wS RI)) : iStr te σ H RI := k
theorem Zi6 (k : tr σ H (wR1 RI)) : iRng1 tr σ H RI := k
theorem rd_wS {z : Str} (k : RI (Its z) H) : wS RI (.str z) H := ⟨z,rfl,k⟩
def rgOk (a b : Int) : Bool := (decide (-(2 ^ 62) ≤ a) && decide (a < 2 ^ 62)) && (decide (-(2 ^ 62) ≤ b) && decide (b < 2 ^ 62))
theorem rd_r1 {n : Int} (h : rgOk 0 n = true) (k : RI (Itr 0 (n - 0).toNat) H) : wR1 RI [.int n] H := by
 unfold rgOk at h
 simp only [Bool.and_eq_true,decide_eq_true_eq] at h
 exact ⟨n,rfl,h.2.1,h.2.2,by rw [Int.sub_zero] at k; exact k⟩
end
end Gl
namespace Gl
open PySem PySem.Spec PyProof.Rows L2
theorem if_t {α : Type} {b : Bool} {x y r : α} (h : (if b = true then x else y) = r) (hb : b = true) : x = r := by
 rw [hb] at h; exact h
theorem if_f {α : Type} {b : Bool} {x y r : α} (h : (if b = true then x else y) = r) (hb : b = false) : y = r := by
 rw [hb] at h; exact h
theorem if_tt {A B : Prop} (h : A) : if true = true then A else B := h
theorem aft_nx {S ρ : Type} {s : S} {k : S → Option ρ} {r : Option ρ} (h : aft (.nx s) k = r) : k s = r := h
theorem aft_rt {S ρ : Type} {v : ρ} {k : S → Option ρ} {r : Option ρ} (h : aft (.rt v) k = r) : some v = r := h
section
variable {X : Cx}
def repS (x : Str) (n : Int) : Str := Txt.mul x n
def Zjp (x : Str) (n : Int) : Bool := (decide (-(2 ^ 62) ≤ n) && decide (n < 2 ^ 62)) && decide (x.length * n.toNat ≤ 100000) && decide (x.length ≤ 100000)
theorem repOk_of {x : Str} {n : Int} (h : Zjp x n = true) : MulOk x n := by
 unfold Zjp at h
 simp only [Bool.and_eq_true,decide_eq_true_eq] at h
 obtain ⟨⟨⟨h1,h2⟩,h3⟩,h4⟩ := h
 refine ⟨?_,fun a _ => ?_,fun a _ => ?_⟩
 ·have e1 : decide (n < -(2 ^ 63 : Int)) = false := decide_eq_false (by omega)
  have e2 : decide (n ≥ (2 ^ 63 : Int)) = false := decide_eq_false (by omega)
  rw [e1,e2]; rfl
 ·have hn : 0 < n := by omega
  intro c
  have e3 : (x.length : Int) * n ≤ 100000 := by
   have e4 : ((x.length * n.toNat : Nat) : Int) ≤ ((100000 : Nat) : Int) := Int.ofNat_le.mpr h3
   have e5 : (n.toNat : Int) = n := Int.toNat_of_nonneg (by omega)
   rw [Int.natCast_mul,e5] at e4
   have e7 : ((100000 : Nat) : Int) = 100000 := rfl
   rw [e7] at e4
   exact e4
  have e6 : (x.length : Int) ≤ (2 ^ 63 - 1) / n := by
   rw [Int.le_ediv_iff_mul_le hn]
   omega
  omega
 ·have e1 : sizeLine = 16777216 := sizeLine_eq
  unfold Builtin.Str.tooLong
  exact decide_eq_false (by omega)
def rRepS : R2 := fun x y H Q => ∃ z n,x = .str z ∧ y = .int n ∧ Zjp z n = true ∧ Q (.str (repS z n)) H
theorem op_repS : OpR X (binaryOp .Mult) rRepS := by
 intro pins s σ H x y v u Q I rx ry h
 obtain ⟨z,n,rfl,rfl,ok,q⟩ := h
 obtain ⟨t,rfl⟩ := rx
 obtain ⟨t',rfl⟩ := ry
 exact SB.mul (repOk_of ok) fun t2 k => ⟨.str _,H,I.tok _,⟨_,rfl⟩,q⟩
theorem rd_repS {H : Hp} {Q : VK} {z : Str} {n : Int} (h : Zjp z n = true) (k : Q (.str (repS z n)) H) : rRepS (.str z) (.int n) H Q := ⟨z,n,rfl,rfl,h,k⟩
def rListS : List V → Hp → VK → Prop := fun xs H Q => ∃ z : Str,xs = [.str z] ∧ z.cps.size ≤ sizeLine ∧ ∀ l,H l = none → Q (.ref l) (upd H l (.lst ((sgns z).map V.str)))
theorem vals_signs {z : Str} {acc : Array Value} (h : ItemsOf (SignAt z) acc z.cps.size) : Vals ((sgns z).map V.str) acc.toList := by
 have hs : acc.toList.length = z.cps.size := by rw [Array.length_toList]; exact h.1
 have key : ∀ (l : List Value) (cs : List Nat),l.length = cs.length → (∀ (j : Nat) (u : Value),l[j]? = some u → ∃ (c : Nat) (t : Tok),cs[j]? = some c ∧ u = Value.str ⟨#[c]⟩ t) → Vals ((cs.map fun c => (⟨#[c]⟩ : Str)).map V.str) l := by
  intro l
  induction l with
  | nil => intro cs hl _; cases cs with
   | nil => exact .nil
   | cons c r => cases hl
  | cons u l ih =>
   intro cs hl hj
   cases cs with
   | nil => cases hl
   | cons c r =>
    obtain ⟨c',t,e1,e2⟩ := hj 0 u rfl
    cases e1
    exact .cons ⟨t,e2⟩ (ih r (Nat.succ.inj hl) fun j w e => hj (j + 1) w e)
 refine key acc.toList z.cps.toList (by rw [hs]; rfl) fun j u e => ?_
 have e' : acc[j]? = some u := by rw [← Array.getElem?_toList]; exact e
 obtain ⟨c,t,e1,e2⟩ := h.2 j u e'
 exact ⟨c,t,by rw [Array.getElem?_toList]; exact e1,e2⟩
theorem cr_listS (hc : X.calm = true) : CallR X (.type "list") rListS := by
 intro pins s σ H xs us Q I r h
 obtain ⟨z,rfl,hz,q⟩ := h
 obtain ⟨u,rfl,t,rfl⟩ := vals1 r
 refine PySem.call_list_str (I.ok.hd hc) z t (fun h' tk acc' c' hk hS hacc => ?_) hz
 have hsz : ((sgns z).map V.str).length ≤ sizeLine := by unfold sgns; simpa using hz
 have I1 := I.laid (a := s.heap.objs.size) (o := .lst ((sgns z).map V.str)) (t' := tk) (h' := h') hk (Nat.le_refl _) (show ObjOk X.prog X.w _ _ _ (.lst _) from ⟨hsz,acc'.toList,c',vals_signs hacc,by simpa using hS⟩)
 exact ⟨.ref s.heap.objs.size,_,I1,rfl,q _ (I.hok.fresh (Nat.le_refl _))⟩
theorem row_strs {K : PySem.W.Frag} {F : Hp} : ∀ xs : List Str,Row qS K F (xs.map V.str) xs
 | [] => .nil
 | _ :: xs => .cons rfl (row_strs xs)
theorem rd_listS {K : PySem.W.Frag} {F H : Hp} {Q : VK} {z : Str} (h : Zb0 z = true) (k : nL qS K F Q H (sgns z)) : rListS [.str z] H Q :=
 ⟨z,rfl,Zir h,fun l hl => k l _ hl (row_strs _)⟩
end
section
variable {K : PySem.W.Frag} {P : Addr → Prop} {F0 H0 F H : Hp} {v : V} {α : Type} {A : R α} {xs : List α} {RI : It → Hp → Prop} {σ : L2.St} {te : TE}
theorem Zgq (S : Sx P F0 H0 F H) (r : (qL A).r K F v xs) (k : ∀ p vs,SqL K F p vs → Row A K F vs xs → RI (Itl K p) H) : wL K RI v H := by
 obtain ⟨p,vs,rfl,h1,h2⟩ := r
 exact ⟨p,rfl,⟨vs,Same.seq S.sub (SqL.of h1)⟩,k p vs (SqL.of h1) h2⟩
theorem rd_wTF (S : Sx P F0 H0 F H) (r : (qT A).r K F v xs) (k : ∀ p vs,SqT K F p vs → Row A K F vs xs → RI (Itt K p) H) : wT K RI v H := by
 obtain ⟨p,vs,rfl,h1,h2⟩ := r
 exact ⟨p,rfl,⟨vs,Zdu S.sub h1⟩,k p vs h1 h2⟩
theorem rd_wSeq (S : Sx P F0 H0 F H) (r : (qQ A).r K F v xs) (hv : ∀ Q : VK,Q v H → te σ H Q)
 (k : ∀ (J : It) (n : Nat) (G : Hp → Prop) (it : Nat → V → Prop),Feeds J n G it → Typed A K F n it xs → (∀ F' H',Same F F' → Same F' H' → G H') → RI J H) : iSeq K te σ H RI := by
 rcases r with ⟨p,vs,rfl,h1,h2⟩ | ⟨p,vs,rfl,h1,h2⟩
 ·refine .inl (hv _ ⟨p,rfl,⟨vs,Same.seq S.sub (SqL.of h1)⟩,k _ _ _ _ Zgd (Zcc h2) fun F' H' e1 e2 => Same.seq e2 (Same.seq e1 (SqL.of h1))⟩)
 ·refine .inr (hv _ ⟨p,rfl,⟨vs,Zdu S.sub h1⟩,k _ _ _ _ feedsT (Zcc h2) fun F' H' e1 e2 => Zdu e2 (Zdu e1 h1)⟩)
end
section
variable {K : PySem.W.Frag} {σ : L2.St} {H : Hp} {p : Addr} {u w : V} {QS : L2.St → Hp → Prop} {t g : TG} {ts : TGs} {n : Nat} {vs : List V}
theorem rd_gt2 (h : SqT K H p [u,w]) (k : ts [u,w] σ H QS) : gTup K 2 ts (.ref p) σ H QS := ⟨p,_,rfl,h,rfl,k⟩
theorem rd_gc {v : V} (k : g v σ H fun σ' H' => ts vs σ' H' QS) : gCons g ts (v :: vs) σ H QS := ⟨v,vs,rfl,k⟩
theorem rd_gl (k : QS σ H) : gNil [] σ H QS := ⟨rfl,k⟩
theorem rd_wp {A B : Prop} (h : A) (k : B) : A ∧ B := ⟨h,k⟩
end
section
variable {K : PySem.W.Frag} {P : Addr → Prop} {F0 H0 F H : Hp} {v : V} {α β : Type} {A : R α} {B : R β} {xs : List α} {Q : VK}
theorem tx_int {i : Int} : TyX K H (.int i) (.type "int") := .base (.int i)
theorem tx_bl {i : Bool} : TyX K H (.bl i) (.type "bool") := .base (.bl i)
theorem tx_str {i : Str} : TyX K H (.str i) (.type "str") := .base (.str i)
theorem tx_non : TyX K H .non (.type "NoneType") := .base .non
theorem tx_sqt {p : Addr} {vs : List V} (h : SqT K H p vs) : TyX K H (.ref p) (.type "tuple") := by
 rcases h with (h | ⟨o,h⟩) | ⟨o,its,n,h1,h2,_⟩
 ·exact .base (.tup h)
 ·exact .fTuple h
 ·exact .kTuple h1 h2
theorem rd_isi {t : Value} {n : String} {b : Bool} (s : TyX K H v t) (h : PySem.W.kitOne [] t (.type n) = some b) (k : Q (.bl b) H) (hk : PySem.W.kitOne K t (.type n) = PySem.W.kitOne [] t (.type n) := by rfl) : rIsi K [v,.ty n] H Q :=
 ⟨v,.ty n,t,.type n,b,rfl,.ty n,s,hk.trans h,k⟩
end
section
variable {σ : L2.St} {H : Hp} {Q : VK} {ta tb : TE} {tr : L2.St → Hp → (Int → Int → Hp → Prop) → Prop} {K : PySem.W.Frag} {F : Hp} {QI : Int → Int → Hp → Prop}
def rgFit (a b : Int) : Bool := (decide (-(2 ^ 62) ≤ a) && decide (a < 2 ^ 62)) && (decide (-(2 ^ 62) ≤ b) && (decide (b < 2 ^ 62) && decide ((b - a).toNat ≤ 16000000)))
def gK (Q : VK) : Int → Int → Hp → Prop := fun a b H1 => RgOk a b ∧ ∀ q,H1 q = none → Q (.ref q) (upd H1 q (.lst (rgV a b)))
theorem rd_lrg (k : tr σ H (gK Q)) : tLstRg tr σ H Q := k
def g2K (Q : Int → Int → Hp → Prop) : V → V → Hp → Prop := fun x y H2 => ∃ i j,x = .int i ∧ y = .int j ∧ Q i j H2
theorem rd_g2 (k : ta σ H fun x H1 => tb σ H1 fun y H2 => g2K QI x y H2) : tRg2 ta tb σ H QI := k
theorem rd_g2i {i j : Int} (k : QI i j H) : g2K QI (.int i) (.int j) H := ⟨i,j,rfl,rfl,k⟩
theorem row_rg {a b : Int} : Row qI K F (rgV a b) (rng a b) := by
 unfold rgV rng
 have : ∀ l : List Nat,Row qI K F (l.map fun i : Nat => V.int (a + (i : Nat))) (l.map fun i : Nat => a + (i : Nat)) := fun l => by
  induction l with
  | nil => exact .nil
  | cons x l ih => exact .cons rfl ih
 exact this _
theorem rd_lrgE {a b : Int} (h : rgFit a b = true) (k : nL qI K F Q H (rng a b)) : gK Q a b H := by
 unfold rgFit at h
 simp only [Bool.and_eq_true,decide_eq_true_eq] at h
 obtain ⟨⟨h1,h2⟩,h3,h4,h5⟩ := h
 exact ⟨⟨h1,h2,h3,h4,by omega⟩,fun q hq => k q _ hq row_rg⟩
end
theorem Zjy {P : Addr → Prop} {H0 F H : Hp} {p : Addr} {o : HO} (w : Ow P H0 F H p o) : ∀ a,a = p → H a ≠ none := fun a z => by rw [z,w.at_]; exact fun h => nomatch h
end Gl
namespace Gl
open PySem PySem.Spec PyProof.Rows L2
theorem ifE_j {b : Bool} {u1 u2 : VK → Prop} {Q : VK} (J : V → Hp → Prop) (h1 : b = true → ∀ Q' : VK,(∀ c H',J c H' → Q' c H') → u1 Q') (h2 : b = false → ∀ Q' : VK,(∀ c H',J c H' → Q' c H') → u2 Q') (k : ∀ c H',J c H' → Q c H') : if b = true then u1 Q else u2 Q := by
 cases b with
 | true => exact h1 rfl Q k
 | false => exact h2 rfl Q k
end Gl
namespace Gl
open PySem PySem.Spec PyProof.Rows L2
theorem if_ff {A B : Prop} (h : B) : if false = true then A else B := h
section
variable {X : Cx}
theorem Zf5 {st : Stmt} : PS X st (fun _ _ _ => False) := ⟨fun _ _ _ _ _ _ h => h.elim⟩
theorem pss_dead {ss : List Stmt} : PSs X ss (fun _ _ _ => False) := ⟨fun _ _ _ _ _ _ h => h.elim⟩
end
end Gl
namespace Gl
open PySem PySem.Spec PyProof.Rows L2
inductive Th where
 | d (x : PyData) | dct
def qTh : R Th := ⟨fun K F v a => match a with
 | .d x => Dp K F v x
 | .dct => ∃ p,v = .ref p ∧ F p = some (.dK []),fun {K F F' v a} e h => by
  cases a with
  | d x => exact Dp.mono e h
  | dct =>
   obtain ⟨p,h1,h2⟩ := h
   exact ⟨p,h1,e _ _ h2⟩⟩
def thK : Th → String
 | .d .none => "NoneType"
 | .d (.bool _) => "bool"
 | .d (.int _) => "int"
 | .d (.str _) => "str"
 | .d (.list _) => "list"
 | .d (.tuple _) => "tuple"
 | .d (.dict _) => "dict"
 | .dct => "dict"
def isK (k n : String) : Bool := k == n || (k == "bool" && n == "int")
def thIs (n : String) (a : Th) : Bool := isK (thK a) n
def thS : Th → Option Str
 | .d (.str s) => some s
 | _ => none
section
variable {K : PySem.W.Frag} {P : Addr → Prop} {F0 H0 F H : Hp} {v : V} {a : Th} {Q : VK}
theorem thS_fact {s : Str} (r : qTh.r K F v a) (h : thS a = some s) : v = .str s := by
 cases a with
 | dct => cases h
 | d x =>
  cases x with
  | str z =>
   cases (show some z = some s from h)
   cases (show Dp K F v (.str _) from r)
   rfl
  | _ => cases h
theorem tx_sql {p : Addr} {vs : List V} (h : SqL K H p vs) : TyX K H (.ref p) (.type "list") := by
 rcases h with (h | ⟨o,h⟩) | ⟨o,its,n,h1,h2,_⟩
 ·exact .base (.lst h)
 ·exact .base (.frz h)
 ·exact .kList h1 h2
theorem tx_th (S : Sx P F0 H0 F H) (r : qTh.r K F v a) : TyX K H v (.type (thK a)) := by
 cases a with
 | dct =>
  obtain ⟨p,rfl,h⟩ := r
  exact .base (.dK (S.sub _ _ h))
 | d x =>
  cases x with
  | none => cases (show Dp K F v .none from r); exact tx_non
  | bool b => cases (show Dp K F v (.bool b) from r); exact tx_bl
  | int b => cases (show Dp K F v (.int b) from r); exact tx_int
  | str b => cases (show Dp K F v (.str b) from r); exact tx_str
  | list b =>
   cases (show Dp K F v (.list b) from r) with
   | lst h _ => exact tx_sql (Same.seq S.sub h)
  | tuple b =>
   cases (show Dp K F v (.tuple b) from r) with
   | tup h _ => exact tx_sqt (Zdu S.sub h)
  | dict b => cases (show Dp K F v (.dict b) from r)
theorem rd_isiTh {n : String} (s : TyX K H v (.type (thK a))) (h : (["NoneType","bool","int","str","list","tuple","dict"].all fun k => decide (PySem.W.kitOne [] (.type k) (.type n) = some (isK k n))) = true) (k : Q (.bl (thIs n a)) H) (hk : ∀ t,PySem.W.kitOne K (.type t) (.type n) = PySem.W.kitOne [] (.type t) (.type n) := by intro t; rfl) : rIsi K [v,.ty n] H Q := by
 refine ⟨v,.ty n,_,.type n,thIs n a,rfl,.ty n,s,(hk _).trans ?_,k⟩
 have hm : thK a ∈ ["NoneType","bool","int","str","list","tuple","dict"] := by
  cases a with
  | dct => decide
  | d x => cases x <;> simp [thK]
 exact of_decide_eq_true (List.all_eq_true.mp h _ hm)
end
end Gl
namespace Gl
open PySem PySem.Spec PyProof.Rows L2
structure Feeds2 (J : It) (n : Nat) (G : Hp → Prop) (it : Nat → V → V → Prop) : Prop where
 go : ∀ i H,i < n → G H → J.go i H
 stop : ∀ H,G H → J.stop n H
 yld : ∀ i H x H',i < n → G H → J.yld i H x H' → ∃ T u w,x = .ref T ∧ H T = none ∧ H' = upd H T (.tup [u,w]) ∧ it i u w
structure Typed2 {α β : Type} (A : R α) (B : R β) (K : PySem.W.Frag) (F : Hp) (n : Nat) (it : Nat → V → V → Prop) (xs : List (α × β)) : Prop where
 len : xs.length = n
 at_ : ∀ i u w,it i u w → ∃ a,xs[i]? = some a ∧ A.r K F u a.1 ∧ B.r K F w a.2
def enumI {α : Type} (xs : List α) : List (Int × α) := (rng 0 xs.length).zip xs
theorem enumI_len {α : Type} (xs : List α) : (enumI xs).length = xs.length := by
 unfold enumI
 rw [List.length_zip]
 have : (rng 0 (xs.length : Int)).length = xs.length := by unfold rng; simp
 rw [this,Nat.min_self]
theorem enumI_at {α : Type} {xs : List α} {i : Nat} {x : α} (h : xs[i]? = some x) : (enumI xs)[i]? = some ((i : Int),x) := by
 have hi : i < xs.length := (List.getElem?_eq_some_iff.mp h).1
 unfold enumI
 rw [List.getElem?_zip_eq_some]
 refine ⟨?_,h⟩
 unfold rng
 rw [List.getElem?_map,List.getElem?_range (by omega)]
 simp
def enK (g : TG) (σ : L2.St) (H : Hp) (Q : L2.St → Hp → Prop) (u w : V) : Prop := ∀ T,H T = none → g (.ref T) σ (upd H T (.tup [u,w])) Q
section
variable {P : Addr → Prop} {F0 H0 F H : Hp} {K : PySem.W.Frag} {g : TG} {σ : L2.St} {Q : L2.St → Hp → Prop} {u w : V}
theorem alE (S : Sx P F0 H0 F H) (k : ∀ T F' H',Sx P0 F H F' H' → SqT K F' T [u,w] → g (.ref T) σ H' Q) : enK g σ H Q u w :=
 fun T hT => k T _ _ ((Sx.refl0 S.sub).alloc hT) (.inl (.inl upd_same))
end
section
variable {J : It} {n : Nat} {G : Hp → Prop} {it : Nat → V → V → Prop} {α β S ρ : Type} {A : R α} {B : R β} {K : PySem.W.Frag} {F : Hp} {xs : List (α × β)} {g : TG} {tb : TS} {σ : L2.St} {H : Hp} {Nx Bx Cx : L2.St → Hp → Prop} {Rx : VK}
theorem rd_forS2 (Fd : Feeds2 J n G it) (Ty : Typed2 A B K F n it xs) {f : α × β → S → Option S} {s0 s1 : S} (hm : Zbt f xs s0 = some s1) (Iv : S → L2.St → Hp → Prop) (hG : ∀ s σ H,Iv s σ H → G H) (h0 : Iv s0 σ H)
 (turn : ∀ (a : α × β) (u w : V) (s s' : S) (σ : L2.St) (H : Hp),A.r K F u a.1 → B.r K F w a.2 → Iv s σ H → f a s = some s' → enK g σ H (fun σ2 H2 => tb ⟨Iv s',Rx,Nx,Iv s'⟩ σ2 H2) u w)
 (done : ∀ σ H,Iv s1 σ H → Nx σ H) : ForG J g tb ⟨Nx,Rx,Bx,Cx⟩ σ H := by
 refine ⟨fun i m σ H => m = n - i ∧ i ≤ n ∧ ∃ s,Iv s σ H ∧ Zbt f (xs.drop i) s = some s1,⟨n,by simp,Nat.zero_le _,s0,h0,hm⟩,?_⟩
 rintro i m σ H ⟨rfl,hi,s,iv,hl⟩
 by_cases hlt : i < n
 ·obtain ⟨a,ha⟩ : ∃ a,xs[i]? = some a := ⟨xs[i]'(by rw [Ty.len]; exact hlt),by simp [Ty.len,hlt]⟩
  obtain ⟨s',e1,e2⟩ := loopS_at hl ha
  refine .inr ⟨Fd.go i H hlt (hG s σ H iv),Iv s',fun σ' H' p' => ⟨n - (i + 1),by omega,rfl,hlt,s',p',e2⟩,fun x H' y => ?_⟩
  obtain ⟨T,u,w,rfl,hT,rfl,hx⟩ := Fd.yld i H x H' hlt (hG s σ H iv) y
  obtain ⟨a',ha',r1,r2⟩ := Ty.at_ i u w hx
  rw [ha] at ha'
  cases ha'
  exact turn a u w s s' σ H r1 r2 iv e1 T hT
 ·have e : i = n := by omega
  subst e
  rw [← Ty.len,List.drop_length] at hl
  cases hl
  exact .inl ⟨Fd.stop H (hG _ σ H iv),done σ H iv⟩
end
section
variable {K : PySem.W.Frag} {P : Addr → Prop} {F0 H0 F H : Hp} {v : V} {Q : VK} {σ : L2.St} {ta te to : TE} {C p dx : Addr} {m f : Str} {sp : Sp} {E : XK} {t : TA} {dvs : List V} {fs : List (Str × V)}
def fdK (K : PySem.W.Frag) (f : Str) (Q : VK) : VK := fun x H1 => ∃ a C dx fs v,x = .ref a ∧ H1 a = some (.ins C dx fs) ∧ Cls K C ∧ NoAttr K C f ∧ fs.lookup f = some v ∧ Q v H1
theorem Zdw (k : ta σ H (fdK K f Q)) : tFld K ta f σ H Q := k
theorem Zfs {u : V} (h : H p = some (.ins C dx fs)) (c : Cls K C) (n : NoAttr K C f) (l : fs.lookup f = some u) (k : Q u H) : fdK K f Q (.ref p) H := ⟨p,C,dx,fs,u,rfl,h,c,n,l,k⟩
def fsK (K : PySem.W.Frag) (f : Str) (y : V) (R : Hp → Prop) : VK := fun x H2 => ∃ a C dx fs,x = .ref a ∧ H2 a = some (.ins C dx fs) ∧ Cls K C ∧ NoAttr K C f ∧ fs.length < 1000 ∧ R (upd H2 a (.ins C dx (putF f y fs)))
theorem Zi4 {N B C : L2.St → Hp → Prop} {R : VK} (k : te σ H fun y H1 => to σ H1 (fsK K f y (N σ))) : sFld K to te f ⟨N,R,B,C⟩ σ H := k
theorem fset {y : V} {R : Hp → Prop} {fs' : List (Str × V)} (S : Sx P F0 H0 F H) (w : Ow P H0 F H p (.ins C dx fs)) (c : Cls K C) (n : NoAttr K C f) (l : Nat.ble fs.length 900 = true) (e : putF f y fs = fs') (k : ∀ H',Sx (fun a => a = p) F H F H' → Ow P H0 F H' p (.ins C dx fs') → R H') : fsK K f y R (.ref p) H :=
 ⟨p,C,dx,fs,rfl,w.at_,c,n,Nat.lt_of_le_of_lt (Nat.le_of_ble_eq_true l) (by decide),by rw [e]; exact k _ (putS S w) w.put⟩
def mtK (C : Addr) (m : Str) (G : V → Hp → Prop) : VK := fun x H1 => ∃ a dx fs,x = .ref a ∧ H1 a = some (.ins C dx fs) ∧ fs.lookup m = none ∧ G x H1
theorem rd_meth (k : ta σ H (mtK C m fun x H1 => t σ H1 fun vs H2 => sp (x :: (vs ++ dvs)) H2 Q E)) : tMeth C m sp dvs E ta t σ H Q := k
theorem Zjw {G : V → Hp → Prop} (h : H p = some (.ins C dx fs)) (l : fs.lookup m = none) (k : G (.ref p) H) : mtK C m G (.ref p) H := ⟨p,dx,fs,rfl,h,l,k⟩
def mkK (C : Addr) (sp : Sp) (E : XK) (Q : VK) : List V → Hp → Prop := fun vs H1 => ∀ x dx,H1 x = none → H1 dx = none → dx ≠ x → sp (.ref x :: vs) (upd (upd H1 dx (.own x)) x (.ins C dx [])) (fun v H2 => v = .non ∧ Q (.ref x) H2) E
theorem Ziq (k : t σ H (mkK C sp E Q)) : StX.tMakeR C sp E t σ H Q := k
theorem rd_make (k : t σ H (mkK C (fun vs => sp (vs ++ dvs)) E Q)) : tMake C sp dvs E t σ H Q := k
def starSp (n : Nat) (sp : Sp) : Sp := fun vs H Q E => ∃ ws rest,vs = ws ++ rest ∧ ws.length = n ∧ rest.length ≤ sizeLine ∧ ∀ p,H p = none → sp (ws ++ [.ref p]) (upd H p (.tup rest)) Q E
theorem mk_star {α : Type} {A : R α} {vs : List V} {xs : List α} (S : Sx P F0 H0 F H) (r : Row A K F vs xs) (hl : Nat.ble vs.length 900 = true)
 (k : ∀ x dx v F1 H1,H x = none → Sx P0 F H F1 H1 → Ow (fun a => a = x) H1 F1 H1 x (.ins C dx []) → (qT A).r K F1 v xs → sp [.ref x,v] H1 (fun v H2 => v = .non ∧ Q (.ref x) H2) E) : mkK C (starSp 1 sp) E Q vs H := by
 intro x dx hx hdx ne
 refine ⟨[.ref x],vs,rfl,rfl,Nat.le_trans (Nat.le_of_ble_eq_true hl) (Nat.le_trans (by decide) (show 1000 ≤ sizeLine by rw [sizeLine_eq]; decide)),fun p hp => ?_⟩
 have hdx2 : upd H dx (.own x) x = none := by rw [upd_ne (Ne.symm ne)]; exact hx
 have c1 : Sx P0 F H F (upd (upd H dx (.own x)) x (.ins C dx [])) := ((Sx.refl0 S.sub).temp hdx).temp hdx2
 have hxp : x ≠ p := fun e => by subst e; rw [upd_same] at hp; cases hp
 have c2 := c1.alloc (o := .tup vs) hp
 refine k x dx (.ref p) _ _ hx c2 ⟨?_,?_,.inr rfl⟩ ⟨p,vs,rfl,.inl (.inl upd_same),Row.mono c2.le r⟩
 ·rw [upd_ne hxp]
  exact S.free hx
 ·rw [upd_ne hxp,upd_same]
theorem mk_plain {vs : List V} (S : Sx P F0 H0 F H)
 (k : ∀ x dx H1,H x = none → Sx P0 F H F H1 → Ow (fun a => a = x) H1 F H1 x (.ins C dx []) → sp (.ref x :: vs) H1 (fun v H2 => v = .non ∧ Q (.ref x) H2) E) : mkK C sp E Q vs H := by
 intro x dx hx hdx ne
 have hdx2 : upd H dx (.own x) x = none := by rw [upd_ne (Ne.symm ne)]; exact hx
 exact k x dx _ hx (((Sx.refl0 S.sub).temp hdx).temp hdx2) ⟨S.free hx,upd_same,.inr rfl⟩
theorem fzI {x : Addr} {F1 H1 F' H' : Hp} {o : HO} (c1 : Sx P0 F H F1 H1) (hx : H x = none) (c : Sx (fun a => a = x) F1 H1 F' H') (w : Ow (fun a => a = x) H1 F' H' x o) : ∃ F'',Sx P0 F H F'' H' ∧ Same F' F'' ∧ F'' x = some o := by
 have S2 : Sx P0 F H F' H' := c1.call c fun a e => by subst e; exact .inr hx
 have w2 : Ow P0 H F' H' x o := ⟨w.fr,w.at_,.inl hx⟩
 exact ⟨_,S2.freeze w2 hx,w2.leF,upd_same⟩
end
section
variable {K : PySem.W.Frag} {P : Addr → Prop} {F0 H0 F H : Hp} {v : V} {Q : VK} {α : Type} {A : R α} {xs : List α} {p : Addr} {vs : List V} {i : Int}
def Zj6 (a : Str) (ys : List Str) : Bool := decide ((ys.map (·.length)).sum + ys.length * a.length ≤ 16777216)
theorem row_str {vs : List V} {xs : List Str} (r : Row qS K F vs xs) : vs = xs.map V.str := by
 induction r with
 | nil => rfl
 | cons h t ih =>
  rw [ih,show _ = _ from h]; rfl
def rJoin (K : PySem.W.Frag) : V → List V → Hp → VK → Prop := fun x xs H Q => ∃ a p,∃ ys : List Str,x = .str a ∧ xs = [.ref p] ∧ (SqL K H p (ys.map V.str) ∨ SqT K H p (ys.map V.str)) ∧ (ys.map (·.length)).sum + ys.length * a.length ≤ 16777216 ∧ Q (.str (Txt.join a ys)) H
theorem mt_joinK {X : Cx} : MtR X "str.join" (rJoin X.K) := mt_join
theorem rd_join {a : Str} {xs : List Str} (s : SeenQ qS K F H v xs) (h : Zj6 a xs = true) (k : Q (.str (Txt.join a xs)) H) : rJoin K (.str a) [v] H Q := by
 obtain ⟨p,vs,rfl,h1,r⟩ := s.seq
 obtain rfl := row_str r
 exact ⟨a,p,xs,rfl,rfl,h1,of_decide_eq_true h,k⟩
theorem Zhv {H : Hp} {x : Str} : tyV K "str" (.str x) H := by first | exact .inr (.inl ⟨rfl,_,rfl⟩) | exact ⟨rfl,_,rfl⟩ | (unfold tyV; simp)
end
section
variable {K : PySem.W.Frag} {P : Addr → Prop} {F0 H0 F H : Hp} {v : V} {Q : VK} {α : Type} {A : R α} {xs : List α} {lo hi : Option Int}
theorem rd_slA (S : Sx P F0 H0 F H) (r : (qT A).r K F v xs) (k : ∀ v' F' H',Sx P0 F H F' H' → (qT A).r K F' v' (cut xs lo hi) → Q v' H') : rSlA K v lo hi H Q := by
 obtain ⟨p,vs,rfl,h1,h2⟩ := id r
 refine ⟨p,vs,rfl,Zdu S.sub h1,fun hw => ?_,fun _ q hq => alT' S k q _ hq (row_cut h2 lo hi)⟩
 refine k _ F H (Sx.refl0 S.sub) ?_
 have e : cut xs lo hi = xs := by
  unfold cut
  rw [← pLen h2,hw.1,hw.2,List.drop_zero,Nat.sub_zero,List.take_of_length_le (by rw [pLen h2]; exact Nat.le_refl _)]
 rw [e]
 exact r
end
section
variable {X : Cx} {K : PySem.W.Frag} {e l tg : Expr} {te : TE} {f : Str} {pos : Pos}
theorem pi_tupK (hl : PE X l te) (hK : X.K = K := by rfl) : PI X tg l (iTup K te) := by subst hK; exact pi_tup hl
theorem Zde (hl : PE X l te) (hK : X.K = K := by rfl) : PI X tg l (iList K te) := by subst hK; exact pi_list hl
theorem pg_tupK {es : List Expr} {k n : Nat} {t : TGs} (hc : X.calm = true) (h : PGs X es t) (hK : X.K = K := by rfl)
 (hn : (assignEach es X.env).length = n := by rfl) (hst : (assignEach es X.env).findIdx? (·.1) = none := by rfl) : PG X (.Tuple es k pos) (gTup K n t) := by subst hK; exact pg_tup hc h hn hst
theorem Zcj (he : PE X e te) (hb : attributeBase e f X.env (eval e X.env) = eval e X.env) (hK : X.K = K := by rfl) : PE X (.Attribute e f pos) (tFld K te f) := by subst hK; exact pe_fld he hb
end
end Gl
namespace Gl
open PySem PySem.Spec PyProof.Rows L2
end Gl
namespace Gl
open PySem PySem.Spec PyProof.Rows L2
section
variable {M : Model} {A : Around} {E : Value → Shared → Prop} {s : Shared} {K : PySem.W.Frag} {x C f : Addr} {ox : Obj} {od : Option Obj} {u : Value}
theorem contains_own {Q : Bool → Shared → Prop} (X' : K.In s.heap) (I : PySem.W.InstAt s.heap x ox C od) (hs : PySem.W.findIn K (.ref C) "__contains__" = some (some (.ref f))) (hf : PySem.W.isFn K (.ref f) = true)
 (h : wpAny M A (call (.ref f) [.ref x,u]) (fun v s' => ∃ b,v = .bool b ∧ Q b s') E s) : wpAny M A (contains (.ref x) u) Q E s := by
 unfold contains
 refine wpAny_holding ?_
 have e0 : stdlibNamesSay? (.ref x) u = none := rfl
 rw [e0]
 refine wpAny_bind (wpAny_bind (I.type.here ((PySem.W.looks_findIn X' hs).here ?_)))
 have e1 : (some (Value.ref f) == some Value.none) = false := rfl
 rw [if_neg (by rw [e1]; decide)]
 refine wpAny_bind ?_
 unfold callSpecialUnlessNone?
 refine wpAny_bind (wpAny_bind (I.type.here ((PySem.W.looks_findIn X' hs).here ?_)))
 refine wpAny_holding (wpAny_bind ((PySem.W.bind_fn X' _ (beq_iff_eq.mp hf)).here ?_))
 refine wpAny_bind (wpAny_mono h (fun v s' ⟨b,e,q⟩ => ?_) fun _ _ z => z)
 subst e
 refine wpAny_pure ?_
 show wpAny M A (truthy (.bool b)) Q E s'
 unfold truthy
 exact wpAny_pure q
end
def rInO (C : Addr) (sp : Sp) (E : XK) : R2 := fun x y H Q => ∃ a dx fs,y = .ref a ∧ H a = some (.ins C dx fs) ∧ sp [.ref a,x] H (fun v H2 => ∃ b,v = .bl b ∧ Q (.bl b) H2) E
section
variable {X : Cx} {CX : CXT} {k : Nat} {C f : Addr} {fd : FuncData} {ps : List Str} {sp : Sp} {E : XK}
theorem in_own {pins : List (Addr × Obj)} {σ : L2.St} {H : Hp} {s : Shared} {a dx : Addr} {fs : List (Str × V)} {x : V} {u : Value} {Q : VK} {R : Bool → Shared → Prop} (hm : Meth X.K C "__contains__" f) (F : FnOk X.prog X.w X.K X.mg X.base CX k f fd ps sp) (hr : Room k X.A) (hb : Binds X.K fd ps []) (hx : Passes CX X E) (I : Inv X pins σ H s) (e : H a = some (.ins C dx fs)) (rx : RelV x u)
 (h : sp [.ref a,x] H Q E) (q : ∀ v s',EP X pins σ Q v s' → ∃ b,v = .bool b ∧ R b s') : wpAny (model X.prog X.w) X.A (contains (.ref a) u) R X.xe s := by
 obtain ⟨ox,od,J,_⟩ := StX.insC_at I (.inr ⟨dx,fs,e⟩)
 refine contains_own I.kIn J hm.at_ hm.fn ?_
 have r := run_fn (X := X) (us := [.ref a,u]) (vs := [.ref a,x]) (dvs := []) (ds := []) F hr hb .nil hx I (.cons rfl (.cons rx .nil)) (Q := Q) h
 exact wpAny_mono r q fun _ _ z => z
end
def inK (Q : VK) : VK := fun v H2 => ∃ b,v = .bl b ∧ Q (.bl b) H2
theorem in_at {C p dx : Addr} {fs : List (Str × V)} {sp : Sp} {E : XK} {x : V} {H : Hp} {Q : VK} (h : H p = some (.ins C dx fs)) (k : sp [.ref p,x] H (inK Q) E) : rInO C sp E x (.ref p) H Q := ⟨p,dx,fs,rfl,h,k⟩
end Gl
namespace Gl
open PySem PySem.Spec PyProof.Rows L2
mutual
inductive NKv (K : PySem.W.Frag) (H : Hp) : NestedKey → V → Prop
 | non : NKv K H .none .non
 | bl (b : Bool) : NKv K H (.num (if b = true then 1 else 0)) (.bl b)
 | int (i : Int) : NKv K H (.num i) (.int i)
 | txt (x : Str) : NKv K H (.text x) (.str x)
 | tup {p : Addr} {vs : List V} {ks : List NestedKey} : SqT K H p vs → NKs K H ks vs → NKv K H (.tup ks) (.ref p)
inductive NKs (K : PySem.W.Frag) (H : Hp) : List NestedKey → List V → Prop
 | nil : NKs K H [] []
 | cons {k : NestedKey} {v : V} {ks : List NestedKey} {vs : List V} : NKv K H k v → NKs K H ks vs → NKs K H (k :: ks) (v :: vs)
end
mutual
theorem NKv.mono {K : PySem.W.Frag} {F F' : Hp} (e : Same F F') : ∀ {k : NestedKey} {v : V},NKv K F k v → NKv K F' k v
 | _,_,.non => .non
 | _,_,.bl b => .bl b
 | _,_,.int i => .int i
 | _,_,.txt x => .txt x
 | _,_,.tup h a => .tup (Zdu e h) (NKs.mono e a)
theorem NKs.mono {K : PySem.W.Frag} {F F' : Hp} (e : Same F F') : ∀ {ks : List NestedKey} {vs : List V},NKs K F ks vs → NKs K F' ks vs
 | _,_,.nil => .nil
 | _,_,.cons h a => .cons (NKv.mono e h) (NKs.mono e a)
end
section
variable {X : Cx} {pins : List (Addr × Obj)} {σ : L2.St} {H : Hp} {s : Shared}
mutual
theorem NKv.is (I : Inv X pins σ H s) : ∀ {k : NestedKey} {v : V} {u : Value},NKv X.K H k v → RelV v u → NestedIs s.heap k u
 | _,_,u,.non,r => by
  cases r
  exact .none
 | _,_,u,.bl b,r => by
  cases r
  exact .bool rfl
 | _,_,u,.int i,r => by
  obtain ⟨t,rfl⟩ := r
  exact .int i t
 | _,_,u,.txt x,r => by
  obtain ⟨t,rfl⟩ := r
  exact .text x t
 | _,_,u,.tup h a,r => by
  cases (show u = Value.ref _ from r)
  obtain ⟨its,rv,⟨o,e1,e2,n,e3⟩,_⟩ := I.tuple h
  exact .tup e1 e2 e3 (by simpa using NKs.is I a rv)
theorem NKs.is (I : Inv X pins σ H s) : ∀ {ks : List NestedKey} {vs : List V} {us : List Value},NKs X.K H ks vs → Vals vs us → NestedAll s.heap ks us
 | _,_,_,.nil,.nil => .nil
 | _,_,_,.cons h a,.cons r rs => .cons (NKv.is I h r) (NKs.is I a rs)
end
end
structure Kd {α : Type} (A : R α) where
 k : α → NestedKey
 is : ∀ {K : PySem.W.Frag} {F : Hp} {v : V} {a : α},A.r K F v a → NKv K F (k a) v
 inj : ∀ a b : α,k a = k b → a = b
 dep : ∀ a : α,(k a).depth ≤ 8
def kI : Kd qI := ⟨.num,fun {K F v a} h => by cases (show v = .int a from h); exact .int a,fun a b h => by cases h; rfl,fun a => by show 0 ≤ 8; omega⟩
end Gl
namespace Gl
open PySem PySem.W PySem.Calls PyProof.Rows
section
variable {prog : Program} {w : World} {A : Around} {E : Value → Shared → Prop} {s : Shared} {K : Frag} {x y C D f g : Addr} {ox oy : Obj} {od oe : Option Obj}
theorem bin_own {op : Operator} {Q : Value → Shared → Prop} (X : K.In s.heap) (I : InstAt s.heap x ox C od) (J : InstAt s.heap y oy D oe) (hc : selfFirst K C = true) (hd : selfFirst K D = true)
 (hs : findIn K (.ref C) (PySem.dunder op.info.2) = some (some (.ref f))) (hf : isFn K (.ref f) = true) (hr : findIn K (.ref C) (dunderR op.info.2) = some none)
 (hs2 : findIn K (.ref D) (PySem.dunder op.info.2) = some (some (.ref g))) (hr2 : findIn K (.ref D) (dunderR op.info.2) = some none) (hsub : C = D ∨ subIn K (.ref D) (.ref C) = some false)
 (h : wpAny (model prog w) A (call (.ref f) [.ref x,.ref y]) (PySem.W.CmpBack Q) E s) : wpAny (model prog w) A (binaryOp op (.ref x) (.ref y)) Q E s := by
 obtain ⟨cd,rest,hcd,hm⟩ := ksp_first hc
 obtain ⟨cd2,rest2,hcd2,hm2⟩ := ksp_first hd
 rcases hi : op.info with ⟨sym,nm'⟩
 rw [hi] at hs hr hs2 hr2
 dsimp only at hs hr hs2 hr2
 have one := ksp_try X I hs hf h
 obtain ⟨hh,g',d,tt,os⟩ := s
 have L1 : Looks (model prog w) hh (typeOf (.ref x)) (.ref C) := I.type
 have L2 : Looks (model prog w) hh (typeOf (.ref y)) (.ref D) := J.type
 have L3 : Looks (model prog w) hh (fillsNumberSlot (.ref C) nm') true := fills_K X hcd hm hs
 have L4 : Looks (model prog w) hh (fillsNumberSlot (.ref D) nm') true := fills_K X hcd2 hm2 hs2
 have L6 : Looks (model prog w) hh (numberSlotInPython (.ref C) nm') true := ksp_inPy X hs hr (.inl rfl)
 have L7 : Looks (model prog w) hh (numberSlotInPython (.ref D) nm') true := ksp_inPy X hs2 hr2 (.inl rfl)
 simp only [binaryOp,hi]
 refine wpAny_holding (wpAny_bind ?_)
 unfold binaryOp1
 refine wpAny_bind (L1.at (wpAny_bind (L2.at (wpAny_bind (L3.at ?_)))))
 by_cases hCD : C = D
 ·subst hCD
  have he : (Value.ref C == Value.ref C) = true := beq_self_eq_true _
  simp only [he,if_true]
  ksp_lk
  refine wpAny_mono one (fun r s' hr' => ?_) fun _ _ e => e
  obtain ⟨v,rfl,hq⟩ := hr'
  ksp_lk
  exact hq
 ·have hsub := hsub.resolve_left hCD
  have hne : (Value.ref C == Value.ref D) = false := Bool.eq_false_iff.mpr fun q => hCD (by cases beq_iff_eq.mp q; rfl)
  have L5 : Looks (model prog w) hh (isSubtype (.ref D) (.ref C)) false := looks_subIn X hsub
  simp only [hne,Bool.false_eq_true,if_false]
  ksp_lk
  refine wpAny_mono one (fun r s' hr' => ?_) fun _ _ e => e
  obtain ⟨v,rfl,hq⟩ := hr'
  ksp_lk
  exact hq
end
end Gl
namespace Gl
open PySem PySem.Spec PyProof.Rows L2
structure OwnOp (K : PySem.W.Frag) (C : Addr) (nm : String) (f : Addr) : Prop where
 first : PySem.W.selfFirst K C = true
 at_ : PySem.W.findIn K (.ref C) (PySem.dunder nm) = some (some (.ref f))
 fn : PySem.W.isFn K (.ref f) = true
 rev : PySem.W.findIn K (.ref C) (dunderR nm) = some none
def rBinO (K : PySem.W.Frag) (nm : String) (f : Addr) (sp : Sp) (E : XK) : R2 := fun x y H Q => ∃ a b C D dx dy fs gs g,x = .ref a ∧ y = .ref b ∧ H a = some (.ins C dx fs) ∧ H b = some (.ins D dy gs) ∧ OwnOp K C nm f ∧ OwnOp K D nm g ∧ (C = D ∨ PySem.W.subIn K (.ref D) (.ref C) = some false) ∧ sp [x,y] H Q E
section
variable {X : Cx} {CX : CXT} {k : Nat} {f : Addr} {fd : FuncData} {ps : List Str} {sp : Sp} {E : XK}
theorem Zkq {op : Operator} (F : FnOk X.prog X.w X.K X.mg X.base CX k f fd ps sp) (hr : Room k X.A) (hb : Binds X.K fd ps []) (hx : Passes CX X E) : OpR X (binaryOp op) (rBinO X.K op.info.2 f sp E) := by
 intro pins s σ H x y v u Q I rx ry h
 obtain ⟨a,b,C,D,dx,dy,fs,gs,g,rfl,rfl,e1,e2,o1,o2,hs,h⟩ := h
 cases rx; cases ry
 obtain ⟨ox,od,J,_⟩ := StX.insC_at I (.inr ⟨dx,fs,e1⟩)
 obtain ⟨oy,oe,J2,_⟩ := StX.insC_at I (.inr ⟨dy,gs,e2⟩)
 refine bin_own I.kIn J J2 o1.first o2.first o1.at_ o1.fn o1.rev o2.at_ o2.rev hs ?_
 have r := run_fn (X := X) (us := [.ref a,.ref b]) (vs := [.ref a,.ref b]) (dvs := []) (ds := []) F hr hb .nil hx I (.cons rfl (.cons rfl .nil)) (Q := Q) h
 refine wpAny_mono r (fun z s' hz => ?_) fun _ _ z => z
 obtain ⟨w',H',I',rw',q⟩ := id hz
 cases z with
 | notImplemented => cases w' <;> first | (obtain ⟨t,ht⟩ := rw'; cases ht; done) | (cases rw'; done) | exact absurd rw' (fun z => nomatch z)
 | _ => exact hz
end
end Gl
namespace Gl
open PySem PySem.W PySem.Calls PyProof.Rows
section
variable {prog : Program} {w : World} {A : Around} {E : Value → Shared → Prop} {s : Shared} {K : Frag} {x C f : Addr} {ox : Obj} {od : Option Obj} {b tb : Value}
theorem cmp_own {op : CmpOp} {Q : Value → Shared → Prop} (hu : A.units < cLine) (X : K.In s.heap) (I : InstAt s.heap x ox C od) (hb : Looks (model prog w) s.heap (typeOf b) tb) (hn : notFirst K C tb = true)
 (hs : findIn K (.ref C) (cmpInfo op).2.1 = some (some (.ref f))) (hf : isFn K (.ref f) = true)
 (h : wpAny (model prog w) A (call (.ref f) [.ref x,b]) (PySem.W.CmpBack Q) E s) : wpAny (model prog w) A (richCompare op (.ref x) b) Q E s := by
 have one : wpAny (model prog w) A (tryCompare (.ref x) (cmpInfo op).2.1 b) (fun r s' => ∃ v,r = some v ∧ Q v s') E s := by
  unfold tryCompare
  refine wpAny_bind (ifBound_K X I hs hf (wpAny_mono h (fun v s' hv => ?_) fun _ _ e => e))
  cases v <;> first | exact hv.elim | exact wpAny_pure ⟨_,rfl,hv⟩
 unfold richCompare
 simp only [oneThing_ref]
 refine wpAny_holding (wpAny_bind (wpAny_cRoomFor hu ?_))
 refine wpAny_bind (I.type.here (wpAny_bind (hb.here ?_)))
 split
 ·rename_i q
  have e : subIn K tb (.ref C) = some false := by
   rcases Bool.or_eq_true_iff.mp hn with e | e
   ·rw [beq_iff_eq.mp e] at q; simp at q
   ·exact beq_iff_eq.mp e
  refine wpAny_bind ((looks_subIn X e).here ?_)
  simp only [Bool.false_eq_true,if_false]
  refine wpAny_bind (wpAny_mono one (fun r s' z => ?_) fun _ _ e => e)
  obtain ⟨v,rfl,hq⟩ := z
  exact wpAny_pure hq
 ·refine wpAny_bind (wpAny_pure ?_)
  simp only [Bool.false_eq_true,if_false]
  refine wpAny_bind (wpAny_mono one (fun r s' z => ?_) fun _ _ e => e)
  obtain ⟨v,rfl,hq⟩ := z
  exact wpAny_pure hq
end
end Gl
namespace Gl
open PySem PySem.Spec PyProof.Rows L2
structure OwnEq (K : PySem.W.Frag) (C f : Addr) : Prop where
 at_ : PySem.W.findIn K (.ref C) "__eq__" = some (some (.ref f))
 fn : PySem.W.isFn K (.ref f) = true
inductive RightOk (K : PySem.W.Frag) (H : Hp) (C : Addr) : V → Prop
 | ins {b D dy : Addr} {gs : List (Str × V)} : H b = some (.ins D dy gs) → PySem.W.notFirst K C (.ref D) = true → RightOk K H C (.ref b)
 | str (z : Str) : PySem.W.notFirst K C (.type "str") = true → RightOk K H C (.str z)
def rEqO (K : PySem.W.Frag) (f : Addr) (sp : Sp) (E : XK) : R2 := fun x y H Q => ∃ a C dx fs,x = .ref a ∧ H a = some (.ins C dx fs) ∧ OwnEq K C f ∧ RightOk K H C y ∧ sp [x,y] H Q E
section
variable {X : Cx} {CX : CXT} {k : Nat} {f : Addr} {fd : FuncData} {ps : List Str} {sp : Sp} {E : XK}
theorem op_eqO (F : FnOk X.prog X.w X.K X.mg X.base CX k f fd ps sp) (hr : Room k X.A) (hb : Binds X.K fd ps []) (hx : Passes CX X E) : OpR X (compareOp .Eq) (rEqO X.K f sp E) := by
 intro pins s σ H x y v u Q I rx ry h
 obtain ⟨a,C,dx,fs,rfl,e1,o,ro,h⟩ := h
 cases rx
 obtain ⟨ox,od,J,_⟩ := StX.insC_at I (.inr ⟨dx,fs,e1⟩)
 have r := run_fn (X := X) (us := [.ref a,u]) (vs := [.ref a,y]) (dvs := []) (ds := []) F hr hb .nil hx I (.cons rfl (.cons ry .nil)) (Q := Q) h
 have back : wpAny (model X.prog X.w) X.A (call (.ref f) [.ref a,u]) (PySem.W.CmpBack (EP X pins σ Q)) X.xe s := by
  refine wpAny_mono r (fun z s' hz => ?_) fun _ _ z => z
  obtain ⟨w',H',I',rw',q⟩ := id hz
  cases z with
  | notImplemented => cases w' <;> first | (obtain ⟨t,ht⟩ := rw'; cases ht; done) | (cases rw'; done) | exact absurd rw' (fun z => nomatch z)
  | _ => exact hz
 have hu : X.A.units < cLine := hr.units0
 show wpAny _ _ (richCompare .Eq (.ref a) u) _ _ s
 cases ro with
 | ins e2 hn =>
  cases ry
  obtain ⟨oy,oe,J2,_⟩ := StX.insC_at I (.inr ⟨_,_,e2⟩)
  exact cmp_own hu I.kIn J J2.type hn o.at_ o.fn back
 | str z hn =>
  obtain ⟨t,rfl⟩ := ry
  exact cmp_own hu I.kIn J (PySem.W.Looks.of_pure rfl) hn o.at_ o.fn back
end
end Gl
namespace PySem
namespace OwnE
open PySem.W PySem.Calls PyProof.Rows PySem.HandSPX
end OwnE
end PySem
namespace Gl
open PySem PySem.Spec PyProof.Rows L2
end Gl
namespace Gl
open PySem PySem.Spec PyProof.Rows L2
open He (ga ma)
end Gl
namespace Gl
open PySem PySem.Spec PyProof.Rows L2
class NotNone {α : Type} {A : R α} (D : Dat A) : Prop where
 l : ∀ a,PyData.eqv (D.d a) .none = false
 r : ∀ a,PyData.eqv .none (D.d a) = false
instance : NotNone dI := ⟨fun _ => rfl,fun _ => rfl⟩
instance : NotNone dB := ⟨fun _ => rfl,fun _ => rfl⟩
instance : NotNone dS := ⟨fun _ => rfl,fun _ => rfl⟩
instance {α : Type} {A : R α} {D : Dat A} : NotNone (dL D) := ⟨fun _ => rfl,fun _ => rfl⟩
instance {α : Type} {A : R α} {D : Dat A} : NotNone (dT D) := ⟨fun _ => rfl,fun _ => rfl⟩
instance {α β : Type} {A : R α} {B : R β} {D : Dat A} {E : Dat B} : NotNone (d2 D E) := ⟨fun _ => rfl,fun _ => rfl⟩
def dO {α : Type} {A : R α} (D : Dat A) [N : NotNone D] : Dat (qO A) := ⟨fun
 | none => .none
 | some a => D.d a,fun {K F v a} h => by
 cases a with
 | none => cases (show v = .non from h); exact .non
 | some a => exact D.dp h,fun a b => by
 cases a with
 | none => cases b with
  | none => simp [PyData.eqv]
  | some b =>
   show PyData.eqv .none (D.d b) = true ↔ _
   rw [N.r b]; simp
 | some a => cases b with
  | none =>
   show PyData.eqv (D.d a) .none = true ↔ _
   rw [N.l a]; simp
  | some b =>
   show PyData.eqv (D.d a) (D.d b) = true ↔ _
   rw [D.eq]; simp⟩
def MOk (X : Cx) (m : Str) (C : Addr) (sp : Sp) (E : XK) : Prop := ∃ (f : Addr) (k : Nat) (fd : FuncData) (ps : List Str) (CX : CXT),Cls X.K C ∧ Meth X.K C m f ∧ FnOk X.prog X.w X.K X.mg X.base CX k f fd ps sp ∧ Room k X.A ∧ Binds X.K fd ps [] ∧ Passes CX X E
def mvK (X : Cx) (m : Str) (E : XK) (t : (List V → Hp → Prop) → Hp → Prop) (Q : VK) : VK := fun x H1 => ∃ a dx fs C sp,x = .ref a ∧ H1 a = some (.ins C dx fs) ∧ fs.lookup m = none ∧ MOk X m C sp E ∧ t (fun vs H2 => sp (x :: vs) H2 Q E) H1
def tMethV (X : Cx) (m : Str) (E : XK) (ta : TE) (t : TA) : TE := fun σ H Q => ta σ H (mvK X m E (fun q H1 => t σ H1 q) Q)
section
variable {X : Cx} {o e : Expr} {es : List Expr} {m : Str} {ta : TE} {t : TA} {E : XK} {apos pos : Pos}
theorem Zhb {pl : Sem Bool} (he : PE X o ta) (ha : PA X (e :: es) t)
 (hst : starEach (e :: es) X.env = (false,eval e X.env) :: starEach es X.env := by rfl) (hpl : (backTo pos (starEach es X.env)).any (·.1) = false := by rfl)
 (ht : eval (.Call (.Attribute o m apos) (e :: es) [] pos) X.env = (do
  let ov ← eval o X.env
  standAt apos.atName
  let (f,first) ← holding [ov] (getMethod ov m pl)
  callWith pos f first (backTo pos (starEach (e :: es) X.env)) (backToKw pos (keywordEach [] X.env))) := by rfl) :
 PE X (.Call (.Attribute o m apos) (e :: es) [] pos) (tMethV X m E ta t) := by
 refine ⟨fun pins s σ H Q I h => ?_⟩
 refine PySem.W.methodCall_KW (pl := pl) (thn (he.run pins s σ H _ I h) fun u s1 ⟨x,H1,I1,rx,a,dx,fs,C,sp,ex,ea,l,⟨f,k,fd,ps,CX,c,hm,F,hr,hb,hx⟩,q⟩ => ?_) ht
 subst ex
 obtain rfl : u = Value.ref a := rx
 refine getmeth_ok I1 ea c hm l ?_
 refine PySem.W.callWith_K (first := [.ref a]) (h₀ := X.base) I.ok.mod.kin hm.kp (thn (ha.run pos pins s1 σ H1 _ I1 q) fun us s2 ⟨vs,H2,I2,r,q2⟩ => ⟨I2.kIn,?_⟩) hst hpl
 exact run_fn (us := .ref a :: us) (vs := .ref a :: vs) (dvs := []) (ds := []) F hr hb .nil hx I2 (.cons rfl r) (by rw [List.append_nil]; exact q2)
theorem Zbx {pl : Sem Bool} (he : PE X o ta)
 (ht : eval (.Call (.Attribute o m apos) [] [] pos) X.env = (do
  let ov ← eval o X.env
  standAt apos.atName
  let (f,first) ← holding [ov] (getMethod ov m pl)
  callWith pos f first (backTo pos (starEach [] X.env)) (backToKw pos (keywordEach [] X.env))) := by rfl) :
 PE X (.Call (.Attribute o m apos) [] [] pos) (tMethV X m E ta tNil) := by
 refine ⟨fun pins s σ H Q I h => ?_⟩
 refine PySem.W.methodCall_KW (pl := pl) (thn (he.run pins s σ H _ I h) fun u s1 ⟨x,H1,I1,rx,a,dx,fs,C,sp,ex,ea,l,⟨f,k,fd,ps,CX,c,hm,F,hr,hb,hx⟩,q⟩ => ?_) ht
 subst ex
 obtain rfl : u = Value.ref a := rx
 refine getmeth_ok I1 ea c hm l ?_
 exact PySem.W.callWith_K0 (first := [.ref a]) I1.kIn hm.kp (run_fn (us := [.ref a]) (vs := [.ref a]) (dvs := []) (ds := []) F hr hb .nil hx I1 (.cons rfl .nil) q)
theorem Zbe {σ : L2.St} {H : Hp} {Q : VK} (k : ta σ H (mvK X m E (fun q H1 => t σ H1 q) Q)) : tMethV X m E ta t σ H Q := k
end
inductive Pat where
 | form (ps : List Str) | both (l r : Pat) | either (l r : Pat)
 deriving DecidableEq
def Pat.forms : Pat → List (List Str)
 | .form ps => [ps]
 | .both l r => l.forms ++ r.forms
 | .either l r => l.forms ++ r.forms
def Pat.ht : Pat → Nat
 | .form _ => 0
 | .both l r => max l.ht r.ht + 1
 | .either l r => max l.ht r.ht + 1
def ownOpB (K : PySem.W.Frag) (x : Str) (nm : String) (f : Addr) : Bool := PySem.W.selfFirst K (He.ga K x) && (He.eqO (PySem.W.findIn K (.ref (He.ga K x)) (PySem.dunder nm)) (some (some (.ref f))) && (PySem.W.isFn K (.ref f) && He.eqO (PySem.W.findIn K (.ref (He.ga K x)) (dunderR nm)) (some none)))
theorem ownOpB_ok {K : PySem.W.Frag} {x : Str} {nm : String} {f : Addr} (h : ownOpB K x nm f = true) : OwnOp K (He.ga K x) nm f := by
 unfold ownOpB at h
 obtain ⟨h1,h⟩ := He.ba h
 obtain ⟨h2,h⟩ := He.ba h
 obtain ⟨h3,h4⟩ := He.ba h
 exact ⟨h1,He.eqO_ok h2,h3,He.eqO_ok h4⟩
def apartB (K : PySem.W.Frag) (x y : Str) : Bool := decide (He.ga K x = He.ga K y) || decide (PySem.W.subIn K (.ref (He.ga K y)) (.ref (He.ga K x)) = some false)
theorem apartB_ok {K : PySem.W.Frag} {x y : Str} (h : apartB K x y = true) : He.ga K x = He.ga K y ∨ PySem.W.subIn K (.ref (He.ga K y)) (.ref (He.ga K x)) = some false := by
 unfold apartB at h
 rcases Bool.or_eq_true_iff.mp h with h | h
 ·exact .inl (of_decide_eq_true h)
 ·exact .inr (of_decide_eq_true h)
def isaB (K : PySem.W.Frag) (x y : Str) (b : Bool) : Bool := decide (PySem.W.kitOne K (.ref (He.ga K x)) (.ref (He.ga K y)) = some b)
theorem isaB_ok {K : PySem.W.Frag} {x y : Str} {b : Bool} (h : isaB K x y b = true) : PySem.W.kitOne K (.ref (He.ga K x)) (.ref (He.ga K y)) = some b := of_decide_eq_true h
def qForm : R (List Str) := ⟨fun K F v a => ∃ (p dx : Addr) (u0 : V),v = .ref p ∧ F p = some (.ins (He.ga K "Form") dx [("pieces",u0)]) ∧ (qT qS).r K F u0 a,fun e ⟨p,dx,u0,h1,h2,k0⟩ => ⟨p,dx,u0,h1,e _ _ h2,(qT qS).mono e k0⟩⟩
def Zg2 (K : PySem.W.Frag) (F : Hp) : V → Pat → Prop
 | v,.form ps => qForm.r K F v ps
 | v,.both l r => ∃ (p dx : Addr) (u w : V),v = .ref p ∧ F p = some (.ins (He.ga K "Both") dx [("left",u),("right",w)]) ∧ Zg2 K F u l ∧ Zg2 K F w r
 | v,.either l r => ∃ (p dx : Addr) (u w : V),v = .ref p ∧ F p = some (.ins (He.ga K "Either") dx [("left",u),("right",w)]) ∧ Zg2 K F u l ∧ Zg2 K F w r
theorem Ze6 {K : PySem.W.Frag} {F F' : Hp} (e : Same F F') : ∀ {v : V} {a : Pat},Zg2 K F v a → Zg2 K F' v a
 | _,.form _,h => qForm.mono e h
 | _,.both _ _,⟨p,dx,u,w,h1,h2,h3,h4⟩ => ⟨p,dx,u,w,h1,e _ _ h2,Ze6 e h3,Ze6 e h4⟩
 | _,.either _ _,⟨p,dx,u,w,h1,h2,h3,h4⟩ => ⟨p,dx,u,w,h1,e _ _ h2,Ze6 e h3,Ze6 e h4⟩
def qPat : R Pat := ⟨fun K F v a => Zg2 K F v a,fun e h => Ze6 e h⟩
def Pat.cls : Pat → Str
 | .form _ => "Form"
 | .both _ _ => "Both"
 | .either _ _ => "Either"
def Pat.holds : Pat → List Bool → Option Bool
 | .form _,t => atI t 0
 | .both l r,t => (l.holds (cut t none (some (l.forms.length : Int)))).bind fun b => if b = true then r.holds (cut t (some (l.forms.length : Int)) none) else some false
 | .either l r,t => (l.holds (cut t none (some (l.forms.length : Int)))).bind fun b => if b = true then some true else r.holds (cut t (some (l.forms.length : Int)) none)
def patN {α : Type} (n : Nat) (a : Pat) (x : Option α) : Option α := gd (decide (a.ht ≤ n)) <| gd (decide (a.forms.length ≤ 16)) x
def Zcq (a : Pat) : Option (List (List Str)) := patN 3 a (some a.forms)
def Zjb (a : Pat) (t : List Bool) : Option Bool := patN 3 a (a.holds t)
theorem Zby {α : Type} {n : Nat} {a : Pat} {x : Option α} {r : α} (h : patN n a x = some r) : a.ht ≤ n ∧ a.forms.length ≤ 16 ∧ x = some r := by
 obtain ⟨h1,h⟩ := Zae h
 obtain ⟨h2,h⟩ := Zae h
 exact ⟨of_decide_eq_true h1,of_decide_eq_true h2,h⟩
theorem Zb8 {α : Type} {n : Nat} {a : Pat} {x : Option α} (h1 : a.ht ≤ n) (h2 : a.forms.length ≤ 16) : patN n a x = x := by
 unfold patN
 rw [Zao (decide_eq_true h1),Zao (decide_eq_true h2)]
def Zch (x : Str) : Prop := x = "Form" ∨ x = "Both" ∨ x = "Either"
theorem Pat.isC (a : Pat) : Zch a.cls := by
 cases a with
 | form => exact .inl rfl
 | both => exact .inr (.inl rfl)
 | either => exact .inr (.inr rfl)
structure VM (P : Program) (w : World) (K : PySem.W.Frag) (mg : Str → Option Value) (base : Heap) (k : Nat) (m : Str) (ps : List Str) (sp : Str → Sp) : Prop where
 go : ∀ x,Zch x → Cls K (He.ga K x) ∧ Meth K (He.ga K x) m (He.fAd K (x,some m)) ∧ FnOk P w K mg base CX0 k (He.fAd K (x,some m)) (fdOf K (x,some m)) ps (sp x) ∧ Binds K (fdOf K (x,some m)) ps []
theorem Zc1 {K : PySem.W.Frag} {F H : Hp} {v : V} {a : Pat} (r : qPat.r K F v a) (s : Same F H) : ∃ p dx fs,v = .ref p ∧ H p = some (.ins (He.ga K a.cls) dx fs) ∧ ∀ m : Str,m ≠ "pieces" → m ≠ "left" → m ≠ "right" → fs.lookup m = none := by
 cases a with
 | form ps =>
  obtain ⟨p,dx,u0,h1,h2,_⟩ := (show qForm.r K F v ps from r)
  exact ⟨p,dx,_,h1,s _ _ h2,fun m n1 n2 n3 => by simp [List.lookup,beq_eq_false_iff_ne.mpr n1]⟩
 | both l r' =>
  obtain ⟨p,dx,u,w,h1,h2,_⟩ := (show Zg2 K F v (.both l r') from r)
  exact ⟨p,dx,_,h1,s _ _ h2,fun m n1 n2 n3 => by simp [List.lookup,beq_eq_false_iff_ne.mpr n2,beq_eq_false_iff_ne.mpr n3]⟩
 | either l r' =>
  obtain ⟨p,dx,u,w,h1,h2,_⟩ := (show Zg2 K F v (.either l r') from r)
  exact ⟨p,dx,_,h1,s _ _ h2,fun m n1 n2 n3 => by simp [List.lookup,beq_eq_false_iff_ne.mpr n2,beq_eq_false_iff_ne.mpr n3]⟩
section
variable {X : Cx} {k : Nat} {m : Str} {ps : List Str} {sp : Str → Sp} {F H F0 H0 : Hp} {P' : Addr → Prop} {v : V} {a : Pat} {Q : VK} {t : (List V → Hp → Prop) → Hp → Prop} {E : XK}
theorem VM.call (V : VM X.prog X.w X.K X.mg X.base k m ps sp) (hr : Room k X.A) (S : Sx P' F0 H0 F H) (r : qPat.r X.K F v a) (kt : t (fun vs H2 => sp a.cls (v :: vs) H2 Q E) H)
 (n1 : m ≠ "pieces" := by decide) (n2 : m ≠ "left" := by decide) (n3 : m ≠ "right" := by decide) : mvK X m E t Q v H := by
 obtain ⟨p,dx,fs,rfl,h2,h3⟩ := Zc1 r S.sub
 obtain ⟨c,me,F,b⟩ := V.go a.cls a.isC
 exact ⟨p,dx,fs,_,sp a.cls,rfl,h2,h3 m n1 n2 n3,⟨_,k,_,ps,CX0,c,me,F,hr,b,pass0⟩,kt⟩
end
def Za4 (n : Nat) (x : Str) (K : PySem.W.Frag) : Sp := fun vs H Q _ => ∃ (F : Hp) (v_self : V) (a_self : Pat) (r : List (List Str)),vs = [v_self] ∧ Same F H ∧ qPat.r K F v_self a_self ∧ a_self.cls = x ∧ patN n a_self (some a_self.forms) = some r ∧ ∀ v F' H',Sx P0 F H F' H' → (qL qForm).r K F' v r → Q v H'
def Zbo (n : Nat) (x : Str) (K : PySem.W.Frag) : Sp := fun vs H Q _ => ∃ (F : Hp) (v_self : V) (a_self : Pat) (v_truths : V) (a_truths : List Bool) (r : Bool),vs = [v_self,v_truths] ∧ Same F H ∧ qPat.r K F v_self a_self ∧ a_self.cls = x ∧ (qL qB).r K F v_truths a_truths ∧ patN n a_self (a_self.holds a_truths) = some r ∧ ∀ v F' H',Sx P0 F H F' H' → qB.r K F' v r → Q v H'
structure InsF (K : PySem.W.Frag) (C : Addr) : Prop where
 ha : PySem.W.findIn K (.ref C) "__class__" = some (some (.builtin "object.__class__"))
 hn : PySem.W.specialIn K (.builtin "object.__class__") "__get__" = some (some (.builtin "getset_descriptor.__get__"))
 htk : PySem.W.takesIn K (.builtin "object.__class__") = some true
 hm : PySem.W.mroIn K C (.type "object") = some true
def insB (K : PySem.W.Frag) (C : Addr) : Bool := He.eqO (PySem.W.findIn K (.ref C) "__class__") (some (some (.builtin "object.__class__"))) && (decide (PySem.W.specialIn K (.builtin "object.__class__") "__get__" = some (some (.builtin "getset_descriptor.__get__"))) && (decide (PySem.W.takesIn K (.builtin "object.__class__") = some true) && decide (PySem.W.mroIn K C (.type "object") = some true)))
theorem insB_ok {K : PySem.W.Frag} {C : Addr} (h : insB K C = true) : InsF K C := by
 unfold insB at h
 obtain ⟨h1,h⟩ := He.ba h
 obtain ⟨h2,h⟩ := He.ba h
 obtain ⟨h3,h4⟩ := He.ba h
 exact ⟨He.eqO_ok h1,of_decide_eq_true h2,of_decide_eq_true h3,of_decide_eq_true h4⟩
structure PatF (K : PySem.W.Frag) : Prop where
 cls : ∀ x,Zch x → Cls K (He.ga K x)
 ins : ∀ x,Zch x → InsF K (He.ga K x)
 isa : ∀ x,Zch x → PySem.W.kitOne K (.ref (He.ga K x)) (.ref (He.ga K "Pattern")) = some true
 and_ : ∀ x,Zch x → OwnOp K (He.ga K x) "and" (He.fAd K ("Pattern",some "__and__"))
 or_ : ∀ x,Zch x → OwnOp K (He.ga K x) "or" (He.fAd K ("Pattern",some "__or__"))
 ap : ∀ x y,Zch x → Zch y → He.ga K x = He.ga K y ∨ PySem.W.subIn K (.ref (He.ga K y)) (.ref (He.ga K x)) = some false
def patCs : List Str := ["Form","Both","Either"]
theorem Zf6 {x : Str} (h : Zch x) : x ∈ patCs := by
 rcases h with rfl | rfl | rfl <;> simp [patCs]
def patB (K : PySem.W.Frag) : Bool := patCs.all fun x => insB K (He.ga K x) && (isaB K x "Pattern" true && (ownOpB K x "and" (He.fAd K ("Pattern",some "__and__")) && (ownOpB K x "or" (He.fAd K ("Pattern",some "__or__")) && patCs.all (apartB K x))))
theorem patB_ok {K : PySem.W.Frag} (h : patB K = true) (c1 : Cls K (He.ga K "Form")) (c2 : Cls K (He.ga K "Both")) (c3 : Cls K (He.ga K "Either")) : PatF K := by
 have z := fun x (hx : Zch x) => List.all_eq_true.mp h x (Zf6 hx)
 refine ⟨fun x hx => ?_,fun x hx => ?_,fun x hx => ?_,fun x hx => ?_,fun x hx => ?_,fun x y hx hy => ?_⟩
 ·rcases hx with rfl | rfl | rfl
  ·exact c1
  ·exact c2
  ·exact c3
 ·exact insB_ok (He.ba (z x hx)).1
 ·exact isaB_ok (He.ba (He.ba (z x hx)).2).1
 ·exact ownOpB_ok (He.ba (He.ba (He.ba (z x hx)).2).2).1
 ·exact ownOpB_ok (He.ba (He.ba (He.ba (He.ba (z x hx)).2).2).2).1
 ·exact apartB_ok (List.all_eq_true.mp (He.ba (He.ba (He.ba (He.ba (z x hx)).2).2).2).2 y (Zf6 hy))
section
variable {K : PySem.W.Frag} {F H F0 H0 : Hp} {P' : Addr → Prop} {v w : V} {a b : Pat} {Q : VK} {sp : Sp} {E : XK}
theorem tx_pat (T : PatF K) (S : Sx P' F0 H0 F H) (r : qPat.r K F v a) : TyX K H v (.ref (He.ga K a.cls)) := by
 obtain ⟨p,dx,fs,rfl,h2,h3⟩ := Zc1 r S.sub
 obtain ⟨i1,i2,i3,i4⟩ := T.ins a.cls a.isC
 exact .base (.ins h2 (T.cls a.cls a.isC) i1 i2 i3 i4)
theorem Zko (T : PatF K) (S : Sx P' F0 H0 F H) (r : qPat.r K F v a) (k : Q (.bl true) H) : rIsi K [v,.ref (He.ga K "Pattern")] H Q :=
 ⟨v,_,_,_,true,rfl,.own _,tx_pat T S r,T.isa a.cls a.isC,k⟩
theorem pat_op {nm : String} {f : Addr} (o : ∀ x,Zch x → OwnOp K (He.ga K x) nm f) (T : PatF K) (S : Sx P' F0 H0 F H) (r : qPat.r K F v a) (r2 : qPat.r K F w b) (k : sp [v,w] H Q E) : rBinO K nm f sp E v w H Q := by
 obtain ⟨p,dx,fs,rfl,h2,h3⟩ := Zc1 r S.sub
 obtain ⟨q,dy,gs,rfl,h5,h6⟩ := Zc1 r2 S.sub
 exact ⟨p,q,_,_,dx,dy,fs,gs,f,rfl,rfl,h2,h5,o a.cls a.isC,o b.cls b.isC,T.ap a.cls b.cls a.isC b.isC,k⟩
theorem pat_and (T : PatF K) (S : Sx P' F0 H0 F H) (r : qPat.r K F v a) (r2 : qPat.r K F w b) (k : sp [v,w] H Q E) : rBinO K "and" (He.fAd K ("Pattern",some "__and__")) sp E v w H Q := pat_op T.and_ T S r r2 k
theorem pat_or (T : PatF K) (S : Sx P' F0 H0 F H) (r : qPat.r K F v a) (r2 : qPat.r K F w b) (k : sp [v,w] H Q E) : rBinO K "or" (He.fAd K ("Pattern",some "__or__")) sp E v w H Q := pat_op T.or_ T S r r2 k
end
class NN {α : Type} (A : R α) : Prop where
 n : ∀ {K : PySem.W.Frag} {F : Hp} {v : V} {a : α},A.r K F v a → v ≠ .non
instance : NN qI := ⟨fun h => by cases (show _ = V.int _ from h); exact fun z => nomatch z⟩
instance : NN qS := ⟨fun h => by cases (show _ = V.str _ from h); exact fun z => nomatch z⟩
instance : NN qB := ⟨fun h => by cases (show _ = V.bl _ from h); exact fun z => nomatch z⟩
instance {α : Type} {A : R α} : NN (qL A) := ⟨fun ⟨p,vs,h,_⟩ => by subst h; exact fun z => nomatch z⟩
instance {α : Type} {A : R α} : NN (qT A) := ⟨fun ⟨p,vs,h,_⟩ => by subst h; exact fun z => nomatch z⟩
instance {α β : Type} {A : R α} {B : R β} : NN (q2 A B) := ⟨fun ⟨p,u,w,h,_⟩ => by subst h; exact fun z => nomatch z⟩
instance {α β γ : Type} {A : R α} {B : R β} {C : R γ} : NN (q3 A B C) := ⟨fun ⟨p,u,w,z,h,_⟩ => by subst h; exact fun z => nomatch z⟩
instance : NN qForm := ⟨fun ⟨p,dx,u,h,_⟩ => by subst h; exact fun z => nomatch z⟩
instance : NN qPat := ⟨fun h => by obtain ⟨p,_,_,rfl,_⟩ := Zc1 h (Same.refl _); exact fun z => nomatch z⟩
def rIsN0 : R2 := fun x y H Q => y = .non ∧ Q (.bl (decide (x = .non))) H
theorem op_isN' {X : Cx} : OpR X (compareOp .Is) rIsN0 := op_isN
section
variable {α : Type} {A : R α} {K : PySem.W.Frag} {F H : Hp} {v : V} {Q : VK} {a : Option α} {b : α}
theorem qO_non [N : NN A] (r : (qO A).r K F v a) : decide (v = .non) = a.isNone := by
 cases a with
 | none => cases (show v = .non from r); rfl
 | some a => exact decide_eq_false (N.n r)
theorem rd_isN [NN A] (r : (qO A).r K F v a) (k : Q (.bl a.isNone) H) : rIsN0 v .non H Q := ⟨rfl,by rw [qO_non r]; exact k⟩
theorem qO_some (r : (qO A).r K F v a) (h : a = some b) : A.r K F v b := by subst h; exact r
end
end Gl
namespace Gl
open PySem PySem.Spec PyProof.Rows L2
class Ord1 {α : Type} {A : R α} (D : Dat A) where
 n : Nat
 al : ∀ a b,PySem.W.alike (D.d a) (D.d b) = true
 dep : ∀ a,(D.d a).depth ≤ n
class Ordd {α : Type} {A : R α} (D : Dat A) extends Ord1 D where
 srt : ∀ bs : List α,PySem.W.Sortable (bs.map D.d)
theorem depAllQ {α : Type} {A : R α} (D : Dat A) (n : Nat) (h : ∀ a,(D.d a).depth ≤ n) : ∀ xs : List α,PyData.depthAll (xs.map D.d) ≤ n
 | [] => by simp [PyData.depthAll]
 | x :: xs => by
  rw [List.map_cons,PyData.depthAll]
  exact Nat.max_le.mpr ⟨h x,depAllQ D n h xs⟩
theorem alAll {α : Type} {A : R α} (D : Dat A) [o : Ord1 D] : ∀ xs ys : List α,PySem.W.alikeAll (xs.map D.d) (ys.map D.d) = true
 | [],_ => by simp [PySem.W.alikeAll]
 | _ :: _,[] => by simp [PySem.W.alikeAll]
 | x :: xs,y :: ys => by
  rw [List.map_cons,List.map_cons,PySem.W.alikeAll,alAll D xs ys,o.al x y]; rfl
instance oI : Ordd dI where
 n := 0
 al := fun _ _ => rfl
 dep := fun _ => Nat.zero_le _
 srt := fun bs => PySem.W.Sortable.others fun b => ⟨(fun z => nomatch z),fun _ z => nomatch z⟩
instance oS : Ordd dS where
 n := 0
 al := fun _ _ => rfl
 dep := fun _ => Nat.zero_le _
 srt := fun bs => PySem.W.Sortable.others fun b => ⟨(fun z => nomatch z),fun _ z => nomatch z⟩
instance oB : Ordd dB where
 n := 0
 al := fun _ _ => rfl
 dep := fun _ => Nat.zero_le _
 srt := fun bs => PySem.W.Sortable.others fun b => ⟨(fun z => nomatch z),fun _ z => nomatch z⟩
instance oT {α : Type} {A : R α} {D : Dat A} [o : Ord1 D] : Ord1 (dT D) where
 n := o.n + 1
 al := fun a b => by
  show PySem.W.alike (.tuple (a.map D.d)) (.tuple (b.map D.d)) = true
  rw [PySem.W.alike]; exact alAll D a b
 dep := fun a => by
  show (PyData.tuple (a.map D.d)).depth ≤ _
  rw [PyData.depth]
  have := depAllQ D o.n o.dep a
  omega
instance oL {α : Type} {A : R α} {D : Dat A} [o : Ord1 D] : Ordd (dL D) where
 n := o.n + 1
 al := fun a b => by
  show PySem.W.alike (.list (a.map D.d)) (.list (b.map D.d)) = true
  rw [PySem.W.alike]; exact alAll D a b
 dep := fun a => by
  show (PyData.list (a.map D.d)).depth ≤ _
  rw [PyData.depth]
  have := depAllQ D o.n o.dep a
  omega
 srt := fun bs => PySem.W.Sortable.others fun b => ⟨(fun z => nomatch z),fun _ z => nomatch z⟩
instance o2 {α β : Type} {A : R α} {B : R β} {D : Dat A} {E : Dat B} [o : Ord1 D] [p : Ord1 E] : Ordd (d2 D E) where
 n := max o.n p.n + 1
 al := fun a b => by
  show PySem.W.alike (.tuple [D.d a.1,E.d a.2]) (.tuple [D.d b.1,E.d b.2]) = true
  simp [PySem.W.alike,PySem.W.alikeAll,o.al,p.al]
 dep := fun a => by
  show (PyData.tuple [D.d a.1,E.d a.2]).depth ≤ _
  have h1 := o.dep a.1
  have h2 := p.dep a.2
  simp only [PyData.depth,PyData.depthAll]
  omega
 srt := fun bs => PySem.W.Sortable.tuples fun b => ⟨_,_,rfl⟩
end Gl
namespace Gl
open PySem PySem.Spec PyProof.Rows L2
end Gl
namespace Gl
open PySem PySem.Spec PyProof.Rows L2
structure RR (α : Type) where
 r : PySem.W.Frag → Hp → List V → α → Prop
 mono : ∀ {K : PySem.W.Frag} {F F' : Hp} {v : List V} {a : α},Same F F' → r K F v a → r K F' v a
def f1 {α : Type} (A : R α) : RR α := ⟨fun K F vs a => ∃ u,vs = [u] ∧ A.r K F u a,fun e ⟨u,h1,h2⟩ => ⟨u,h1,A.mono e h2⟩⟩
def fc {α β : Type} (A : R α) (B : RR β) : RR (α × β) := ⟨fun K F vs a => ∃ u us,vs = u :: us ∧ A.r K F u a.1 ∧ B.r K F us a.2,fun e ⟨u,us,h1,h2,h3⟩ => ⟨u,us,h1,A.mono e h2,B.mono e h3⟩⟩
def qLr {α : Type} (B : RR α) : R α := ⟨fun K F v a => ∃ p vs,v = .ref p ∧ F p = some (.lst vs) ∧ B.r K F vs a,fun e ⟨p,vs,h1,h2,h3⟩ => ⟨p,vs,h1,e _ _ h2,B.mono e h3⟩⟩
def qTr {α : Type} (B : RR α) : R α := ⟨fun K F v a => ∃ p vs,v = .ref p ∧ SqT K F p vs ∧ B.r K F vs a,fun e ⟨p,vs,h1,h2,h3⟩ => ⟨p,vs,h1,Zdu e h2,B.mono e h3⟩⟩
structure DatR {α : Type} (B : RR α) where
 d : α → List PyData
 dp : ∀ {K : PySem.W.Frag} {F : Hp} {v : List V} {a : α},B.r K F v a → DpAll K F v (d a)
 eq : ∀ a b : α,PyData.eqvAll (d a) (d b) = true ↔ a = b
def e1 {α : Type} {A : R α} (D : Dat A) : DatR (f1 A) := ⟨fun a => [D.d a],fun ⟨u,h1,h2⟩ => by subst h1; exact .cons (D.dp h2) .nil,fun a b => by
 show (PyData.eqv (D.d a) (D.d b) && true) = true ↔ _
 rw [Bool.and_true,D.eq]⟩
def ec {α β : Type} {A : R α} {B : RR β} (D : Dat A) (E : DatR B) : DatR (fc A B) := ⟨fun a => D.d a.1 :: E.d a.2,fun ⟨u,us,h1,h2,h3⟩ => by subst h1; exact .cons (D.dp h2) (E.dp h3),fun a b => by
 show (PyData.eqv (D.d a.1) (D.d b.1) && PyData.eqvAll (E.d a.2) (E.d b.2)) = true ↔ _
 rw [Bool.and_eq_true,D.eq,E.eq]
 obtain ⟨a1,a2⟩ := a
 obtain ⟨b1,b2⟩ := b
 simp⟩
def dLr {α : Type} {B : RR α} (E : DatR B) : Dat (qLr B) := ⟨fun a => .list (E.d a),fun ⟨p,vs,h1,h2,h3⟩ => by subst h1; exact .lst (SqL.of h2) (E.dp h3),fun a b => E.eq a b⟩
def dTr {α : Type} {B : RR α} (E : DatR B) : Dat (qTr B) := ⟨fun a => .tuple (E.d a),fun ⟨p,vs,h1,h2,h3⟩ => by subst h1; exact .tup h2 (E.dp h3),fun a b => E.eq a b⟩
instance {α : Type} {B : RR α} : NN (qLr B) := ⟨fun ⟨p,vs,h,_⟩ => by subst h; exact fun z => nomatch z⟩
instance {α : Type} {B : RR α} : NN (qTr B) := ⟨fun ⟨p,vs,h,_⟩ => by subst h; exact fun z => nomatch z⟩
instance {α : Type} {B : RR α} {E : DatR B} : NotNone (dLr E) := ⟨fun _ => rfl,fun _ => rfl⟩
instance {α : Type} {B : RR α} {E : DatR B} : NotNone (dTr E) := ⟨fun _ => rfl,fun _ => rfl⟩
section
variable {K : PySem.W.Frag} {P : Addr → Prop} {F0 H0 F H F' : Hp} {v u : V} {Q : VK} {α : Type} {B : RR α} {a : α}
theorem alLr {vs : List V} (S : Sx P F0 H0 F H) (r : B.r K F vs a) (k : ∀ v F' H',Sx P0 F H F' H' → (qLr B).r K F' v a → Q v H') : nK Q H (.lst vs) :=
 alF S fun p F' H' c h => k _ F' H' c ⟨p,vs,rfl,h,B.mono c.le r⟩
end
end Gl
namespace Gl
open PySem PySem.Spec PyProof.Rows L2
def rInW (P : Program) (w : World) (K : PySem.W.Frag) (mg : Str → Option Value) (base : Heap) (k : Nat) (neg : Bool) : R2 := fun x y H Q => ∃ (a dx : Addr) (fs : List (Str × V)) (C f : Addr) (sp : Sp) (j : Nat) (fd : FuncData) (ps : List Str),y = .ref a ∧ H a = some (.ins C dx fs) ∧
 Meth K C "__contains__" f ∧ FnOk P w K mg base CX0 j f fd ps sp ∧ j ≤ k ∧ Binds K fd ps [] ∧ sp [.ref a,x] H (fun v H2 => ∃ b,v = .bl b ∧ Q (.bl (neg != b)) H2) E0
theorem op_inW {X : Cx} {k : Nat} (hr : Room k X.A) : OpR X (compareOp .In) (rInW X.prog X.w X.K X.mg X.base k false) := by
 intro pins s σ H x y v u Q I rx ry h
 obtain ⟨a,dx,fs,C,f,sp,j,fd,ps,rfl,e,hm,F,hj,hb,h⟩ := h
 cases ry
 show wpAny _ _ ((contains (.ref a) v) >>= fun z => pure (Value.bool z)) _ _ s
 refine wpAny_bind (in_own (E := E0) hm F (hr.mono hj) hb pass0 I e rx h fun r s' ⟨z,H',I',rz,b,ez,q⟩ => ?_)
 subst ez
 cases rz
 refine ⟨b,rfl,wpAny_pure (fin_bl I' ?_ rfl)⟩
 cases b <;> exact q
def inWK (neg : Bool) (Q : VK) : VK := fun v H2 => ∃ b,v = .bl b ∧ Q (.bl (neg != b)) H2
theorem rd_inWf {Q : VK} {b : Bool} {H : Hp} (k : Q (.bl b) H) : inWK false Q (.bl b) H := ⟨b,rfl,by cases b <;> exact k⟩
theorem VM.inW {P : Program} {w : World} {K : PySem.W.Frag} {mg : Str → Option Value} {base : Heap} {k : Nat} {ps : List Str} {sp : Str → Sp} {F H F0 H0 : Hp} {P' : Addr → Prop} {v x : V} {a : Pat} {Q : VK} {neg : Bool} (V : VM P w K mg base k "__contains__" ps sp) (S : Sx P' F0 H0 F H) (r : qPat.r K F v a)
 (kt : sp a.cls [v,x] H (inWK neg Q) E0) : rInW P w K mg base k neg x v H Q := by
 obtain ⟨p,dx,fs,rfl,h2,h3⟩ := Zc1 r S.sub
 obtain ⟨c,me,F,b⟩ := V.go a.cls a.isC
 exact ⟨p,dx,fs,_,_,sp a.cls,k,_,ps,rfl,h2,me,F,Nat.le_refl _,b,kt⟩
section
variable {X : Cx} {K : PySem.W.Frag} {T id : String} {name : Str} {o e : Expr} {es : List Expr} {to : TE} {t : TA} {r : V → List V → Hp → VK → Prop} {apos cpos : Pos}
theorem Zcv (pa : PlainAttrs T) (slot : Slot T name id) (hty : typeOf (.builtin id) = pure (.type "method_descriptor")) (hm : MtR X id r) (ho : PE X o to) (ha : PA X (e :: es) t) (hK : X.K = K := by rfl)
 (hbase : attributeBase o name X.env (eval o X.env) = eval o X.env := by rfl)
 (hfew : ((backTo cpos (starEach (e :: es) X.env)).all (fun x => !x.1) && (backToKw cpos (keywordEach [] X.env)).all (fun x => x.1.isSome)
  && decide ((e :: es).length + ([] : List Keyword).length + (if ([] : List Keyword).isEmpty then 0 else 1) < 30)) = true := by rfl)
 (hline : (apos.endLine == cpos.line) = true := by rfl) (hs : starEach (e :: es) X.env = (false,eval e X.env) :: starEach es X.env := by rfl) (hplain : (backTo cpos (starEach es X.env)).any (·.1) = false := by rfl) :
 PE X (.Call (.Attribute o name apos) (e :: es) [] cpos) (tBM K T r to t) := by
 subst hK; exact pe_bm pa slot hty hm ho ha hbase hfew hline hs hplain
end
end Gl
namespace Gl
open PySem PySem.Spec PyProof.Rows L2
end Gl
namespace Gl
open PySem PySem.Spec PyProof.Rows L2
end Gl
namespace L2
open PySem PySem.Spec PyProof.Rows
end L2
namespace Gl
open PySem PySem.Spec PyProof.Rows L2
end Gl
namespace Gl
open PySem PySem.Spec PyProof.Rows L2
section
variable {X : Cx} {CX : CXT} {k : Nat} {C f : Addr} {fd : FuncData} {ps : List Str} {sp : Sp} {E : XK}
theorem run_fn2 {pins : List (Addr × Obj)} {σ : L2.St} {H : Hp} {s : Shared} {Q : VK} {us : List Value} {vs : List V} (F : FnOk X.prog X.w X.K X.mg X.base CX k f fd ps sp) (hr : Room (k + 2) X.A) (hb : Binds X.K fd ps []) (hx : Passes CX X E)
 (I : Inv X pins σ H s) (r : Vals vs us) (h : sp vs H Q E) : wpAny (model X.prog X.w) X.A.in1.in1 (call (.ref f) us) (EP X pins σ Q) X.xe s := by
 have hl : (us ++ []).length = ps.length := by rw [List.append_nil,← r.length]; exact F.len _ _ _ _ h
 have hb' := hb s us I.kIn hl
 rw [List.append_nil] at hb'
 refine wpAny_call (codeAny_mono (F.run X.A.in1.in1 X.stack s H ⟨us,[]⟩ us vs Q E hr.in1.in1 I.env0.in1.in1 hb' r h) fun r s' hq => ?_)
 cases r with
 | error e => exact hx pins σ H s e s' I hq
 | ok fl =>
  cases fl with
  | ret u => exact I.after hq
  | next => exact False.elim hq
  | brk => exact False.elim hq
  | cont => exact False.elim hq
end
def stK (Q : VK) : VK := fun v H2 => ∃ t,v = .str t ∧ Q (.str t) H2
def Zkp (P : Program) (w : World) (K : PySem.W.Frag) (mg : Str → Option Value) (base : Heap) (k : Nat) : List V → Hp → VK → Prop := fun xs H Q => ∃ (a dx : Addr) (fs : List (Str × V)) (C f : Addr) (sp : Sp) (j : Nat) (fd : FuncData) (ps : List Str),xs = [.ref a] ∧ H a = some (.ins C dx fs) ∧
 Meth K C "__str__" f ∧ FnOk P w K mg base CX0 j f fd ps sp ∧ j ≤ k ∧ Binds K fd ps [] ∧ sp [.ref a] H (stK Q) E0
theorem Zg6 {X : Cx} {k : Nat} (hr : Room (k + 2) X.A) : CallR X (.type "str") (Zkp X.prog X.w X.K X.mg X.base k) := by
 intro pins s σ H xs us Q I r h
 obtain ⟨a,dx,fs,C,f,sp,j,fd,ps,rfl,e,hm,F,hj,hb,h⟩ := h
 obtain rfl := Vals.ref1 r
 obtain ⟨ox,od,J,_⟩ := StX.insC_at I (.inr ⟨dx,fs,e⟩)
 refine PySem.W.kso_call (by have := hr.un; show X.A.units + 1 + 1 < cLine; omega) I.kIn J hm.at_ hm.fn ?_
 have z := run_fn2 (X := X) (us := [.ref a]) (vs := [.ref a]) F (hr.mono (by omega)) hb pass0 I (.cons rfl .nil) (Q := stK Q) h
 refine wpAny_mono z (fun v s' hv => ?_) fun _ _ z => z
 obtain ⟨x,H',I',rx,t,ex,q⟩ := hv
 subst ex
 obtain ⟨tk,rfl⟩ := rx
 exact ⟨.str t,H',I',⟨tk,rfl⟩,q⟩
theorem Zi3 {Q : VK} {t : Str} {H : Hp} (k : Q (.str t) H) : stK Q (.str t) H := ⟨t,rfl,k⟩
theorem VM.strW {P : Program} {w : World} {K : PySem.W.Frag} {mg : Str → Option Value} {base : Heap} {k : Nat} {ps : List Str} {sp : Str → Sp} {F H F0 H0 : Hp} {P' : Addr → Prop} {v : V} {a : Pat} {Q : VK} (V : VM P w K mg base k "__str__" ps sp) (S : Sx P' F0 H0 F H) (r : qPat.r K F v a)
 (kt : sp a.cls [v] H (stK Q) E0) : Zkp P w K mg base k [v] H Q := by
 obtain ⟨p,dx,fs,rfl,h2,h3⟩ := Zc1 r S.sub
 obtain ⟨c,me,F,b⟩ := V.go a.cls a.isC
 exact ⟨p,dx,fs,_,_,sp a.cls,k,_,ps,rfl,h2,me,F,Nat.le_refl _,b,kt⟩
section
variable {t te : TE} {ts : List TE} {acc y : Str} {σ : L2.St} {H : Hp} {R : Str → Hp → Prop} {Q : VK}
def jsK (ts : List TE) (acc : Str) (σ : L2.St) (R : Str → Hp → Prop) : VK := fun x H1 => ∃ y : Str,x = .str y ∧ (acc ++ y).length ≤ sizeLine ∧ tJs ts (acc ++ y) σ H1 R
theorem Zjq (k : t σ H (jsK ts acc σ R)) : tJs (t :: ts) acc σ H R := k
theorem Zjz (h : (acc ++ y).length ≤ sizeLine) (k : tJs ts (acc ++ y) σ H R) : jsK ts acc σ R (.str y) H := ⟨y,rfl,h,k⟩
theorem rd_js0 (k : R acc H) : tJs [] acc σ H R := k
def fmK (Q : VK) : VK := fun x H1 => (∃ y : Str,x = .str y ∧ y.length ≤ sizeLine ∧ Q (.str y) H1) ∨ ∃ i : Int,x = .int i ∧ i.natAbs.log2 < 1920 ∧ Q (.str (toString i)) H1
theorem rd_fm (k : te σ H (fmK Q)) : tFmt te σ H Q := k
theorem fm_at (h : y.length ≤ sizeLine) (k : Q (.str y) H) : fmK Q (.str y) H := .inl ⟨y,rfl,h,k⟩
end
def Zed (m x y : Str) : Str := Str.empty ++ ("(" : Str) ++ x ++ m ++ y ++ (")" : Str)
def Zet (m x y : Str) : Bool := decide (x.length ≤ sizeLine) && decide (y.length ≤ sizeLine) && decide ((Zed m x y).length ≤ sizeLine)
theorem Zje {m x y : Str} (h : Zet m x y = true) : x.length ≤ sizeLine ∧ y.length ≤ sizeLine ∧ (Str.empty ++ ("(" : Str)).length ≤ sizeLine ∧ (Str.empty ++ ("(" : Str) ++ x).length ≤ sizeLine ∧ (Str.empty ++ ("(" : Str) ++ x ++ m).length ≤ sizeLine ∧ (Str.empty ++ ("(" : Str) ++ x ++ m ++ y).length ≤ sizeLine ∧ (Str.empty ++ ("(" : Str) ++ x ++ m ++ y ++ (")" : Str)).length ≤ sizeLine := by
 unfold Zet Zed at h
 simp only [Bool.and_eq_true,decide_eq_true_eq] at h
 obtain ⟨⟨h1,h2⟩,h3⟩ := h
 simp only [Str.length_append] at h3 ⊢
 omega
def Pat.str : Pat → Option Str
 | .form a => gd (Zj6 ("" : Str) a) (some (Txt.join ("" : Str) a))
 | .both l r => l.str.bind fun x => r.str.bind fun y => gd (Zet (" & " : Str) x y) (some (Zed (" & " : Str) x y))
 | .either l r => l.str.bind fun x => r.str.bind fun y => gd (Zet (" | " : Str) x y) (some (Zed (" | " : Str) x y))
def Zdy (a : Pat) : Option Str := patN 3 a a.str
def Zcu (n : Nat) (x : Str) (K : PySem.W.Frag) : Sp := fun vs H Q _ => ∃ (F : Hp) (v_self : V) (a_self : Pat) (r : Str),vs = [v_self] ∧ Same F H ∧ qPat.r K F v_self a_self ∧ a_self.cls = x ∧ patN n a_self a_self.str = some r ∧ ∀ v F' H',Sx P0 F H F' H' → qS.r K F' v r → Q v H'
end Gl
namespace Gl
open PySem PySem.Spec PyProof.Rows L2
section
variable {K : PySem.W.Frag} {P : Addr → Prop} {F0 H0 F H : Hp} {v u : V} {Q : VK}
end
end Gl
namespace Gl
open PySem PySem.Spec PyProof.Rows L2 C8
def tTry (tb : WX → TS) (K : PySem.W.Frag) (c : Value) (i : Nat) (ts : Addr → Value → Option Addr → TS) (Wout : WX) : TS := fun D σ H => tb (wAs K c i ts Wout D) D σ H
section
variable {X : Cx} {x n : Str} {c : Value} {i : Nat} {body suite : List Stmt} {b₀ : Stmt} {np pos pos' : Pos} {tb : WX → TS} {ts : Addr → Value → Option Addr → TS} {Wout : WX}
theorem ps_tryK (hs : X.stack = X.env :: X.outer) (hf : X.env.frame = some X.env.locals) (hN : X.N.Nodup) (hi : X.N[i]? = some n) (hln : X.env.kindOf n = some .local) (hc : Names X x c) (tk : Takes X Wout)
 (hb : ∀ (W : WX) (pn : List (Addr × Obj)) (xe : Value → Shared → Prop),Takes (X.tr pn xe) W → PassesOwn (model X.prog X.w) X.A X.env xe → PSs (X.tr pn xe) body (tb W))
 (hsu : ∀ (a : Addr) (oe : Obj) (cls : Value) (d : Option Addr) (pn : List (Addr × Obj)),Zc cls d oe → (∃ vs,oe.data = .fields vs) → PSs (X.suite a ((a,oe) :: pn)) (b₀ :: suite) (ts a cls d)) :
 PS X (.Try body [.ExceptHandler (some (.Name x np)) (some n) (b₀ :: suite) pos'] [] [] pos) (tTry tb X.K c i ts Wout) := ps_try_as hs hf hN hi hln hc tk hb hsu
theorem takesF : Takes X (fun _ _ _ _ => False) := L2.takes0
end
section
variable {K : PySem.W.Frag} {P : Addr → Prop} {F0 H0 F H : Hp} {σ : L2.St} {c : Value} {i : Nat} {tb : WX → TS} {ts : Addr → Value → Option Addr → TS} {Wout : WX} {D : Ends} {N B C : L2.St → Hp → Prop} {R : VK} {cls : Value} {d : Option Addr}
theorem rd_try (k : tb (wAs K c i ts Wout ⟨N,R,B,C⟩) ⟨N,R,B,C⟩ σ H) : tTry tb K c i ts Wout ⟨N,R,B,C⟩ σ H := k
end
theorem mt_joinKK {X : Cx} {K : PySem.W.Frag} (hK : X.K = K := by rfl) : MtR X "str.join" (rJoin K) := by subst hK; exact mt_joinK
inductive Shp where
 | lf (k : Int)
 | nd (op : Str) (l r : Shp)
def Shp.rel (F : Hp) : Shp → V → Prop
 | .lf k,v => ∃ p,v = .ref p ∧ F p = some (.lst [.int k])
 | .nd op l r,v => ∃ p u w,v = .ref p ∧ F p = some (.lst [.str op,u,w]) ∧ l.rel F u ∧ r.rel F w
theorem Shp.mono {F F' : Hp} (e : Same F F') : ∀ {a : Shp} {v : V},a.rel F v → a.rel F' v
 | .lf _,_,⟨p,h1,h2⟩ => ⟨p,h1,e _ _ h2⟩
 | .nd _ _ _,_,⟨p,u,w,h1,h2,h3,h4⟩ => ⟨p,u,w,h1,e _ _ h2,Shp.mono e h3,Shp.mono e h4⟩
def qSh : R Shp := ⟨fun _ F v a => a.rel F v,fun e h => Shp.mono e h⟩
def Shp.len : Shp → Int
 | .lf _ => 1
 | .nd _ _ _ => 3
def Shp.num : Shp → Option Int
 | .lf k => some k
 | .nd _ _ _ => none
def Shp.op : Shp → Option Str
 | .lf _ => none
 | .nd z _ _ => some z
def Shp.lft : Shp → Option Shp
 | .lf _ => none
 | .nd _ l _ => some l
def Shp.rgt : Shp → Option Shp
 | .lf _ => none
 | .nd _ _ r => some r
def Shp.isOp (a : Shp) (z : Str) : Bool := decide (a.op = some z)
section
variable {K : PySem.W.Frag} {P : Addr → Prop} {F0 H0 F H : Hp} {v : V} {Q : VK} {a l r : Shp} {k : Int} {z : Str}
theorem sh_of1 (h : (qL qI).r K F v [k]) : qSh.r K F v (.lf k) := by
 obtain ⟨p,vs,h1,h2,h3⟩ := h
 cases h3 with
 | cons h t =>
  cases t
  have e : _ = V.int k := h
  subst e
  exact ⟨p,h1,h2⟩
theorem sh_of3 {x : Str × Shp × Shp} (h : (qLr (fc qS (fc qSh (f1 qSh)))).r K F v x) : qSh.r K F v (.nd x.1 x.2.1 x.2.2) := by
 obtain ⟨p,vs,h1,h2,h3⟩ := h
 obtain ⟨u0,s0,rfl,e0,u1,s1,rfl,e1,u2,rfl,e2⟩ := h3
 have e : u0 = V.str x.1 := e0
 subst e
 exact ⟨p,u1,u2,h1,h2,e1,e2⟩
theorem Zkn (S : Sx P F0 H0 F H) (h : qSh.r K F v a) (q : Q (.int a.len) H) : Zc9 K [v] H Q := by
 cases a with
 | lf k =>
  obtain ⟨p,rfl,h2⟩ := h
  exact ⟨p,_,rfl,.inl (SqL.of (S.sub _ _ h2)),q⟩
 | nd op l r =>
  obtain ⟨p,u,w,rfl,h2,_,_⟩ := h
  exact ⟨p,_,rfl,.inl (SqL.of (S.sub _ _ h2)),q⟩
theorem rd_shN (S : Sx P F0 H0 F H) (h : qSh.r K F v a) (e : a.num = some k) (q : Q (.int k) H) : rIxL K v (.int 0) H Q := by
 cases a with
 | lf k' =>
  cases e
  obtain ⟨p,rfl,h2⟩ := h
  exact ⟨p,_,0,_,rfl,rfl,SqL.of (S.sub _ _ h2),rfl,q⟩
 | nd op l r => cases e
theorem rd_shO (S : Sx P F0 H0 F H) (h : qSh.r K F v a) (e : a.op = some z) (q : Q (.str z) H) : rIxL K v (.int 0) H Q := by
 cases a with
 | lf k' => cases e
 | nd op l r =>
  cases e
  obtain ⟨p,u,w,rfl,h2,_,_⟩ := h
  exact ⟨p,_,0,_,rfl,rfl,SqL.of (S.sub _ _ h2),rfl,q⟩
theorem rd_shL (S : Sx P F0 H0 F H) (h : qSh.r K F v a) (e : a.lft = some l) (q : ∀ u,qSh.r K F u l → Q u H) : rIxL K v (.int 1) H Q := by
 cases a with
 | lf k' => cases e
 | nd op l' r =>
  cases e
  obtain ⟨p,u,w,rfl,h2,h3,_⟩ := h
  exact ⟨p,_,1,u,rfl,rfl,SqL.of (S.sub _ _ h2),rfl,q u h3⟩
theorem rd_shR (S : Sx P F0 H0 F H) (h : qSh.r K F v a) (e : a.rgt = some r) (q : ∀ u,qSh.r K F u r → Q u H) : rIxL K v (.int 2) H Q := by
 cases a with
 | lf k' => cases e
 | nd op l r' =>
  cases e
  obtain ⟨p,u,w,rfl,h2,_,h4⟩ := h
  exact ⟨p,_,2,w,rfl,rfl,SqL.of (S.sub _ _ h2),rfl,q w h4⟩
end
structure PatE (K : PySem.W.Frag) : Prop where
 eq : ∀ x,Zch x → OwnEq K (He.ga K x) (He.fAd K ("Pattern",some "__eq__"))
 nf : ∀ x y,Zch x → Zch y → PySem.W.notFirst K (He.ga K x) (.ref (He.ga K y)) = true
 ns : ∀ x,Zch x → PySem.W.notFirst K (He.ga K x) (.type "str") = true
 isc : ∀ x y,Zch x → Zch y → PySem.W.kitOne K (.ref (He.ga K x)) (.ref (He.ga K y)) = some (decide (x = y))
 strP : PySem.W.kitOne K (.type "str") (.ref (He.ga K "Pattern")) = some false
def patEB (K : PySem.W.Frag) : Bool := (patCs.all fun x => decide (PySem.W.findIn K (.ref (He.ga K x)) "__eq__" = some (some (.ref (He.fAd K ("Pattern",some "__eq__"))))) && (PySem.W.isFn K (.ref (He.fAd K ("Pattern",some "__eq__"))) && (PySem.W.notFirst K (He.ga K x) (.type "str") &&
 patCs.all fun y => PySem.W.notFirst K (He.ga K x) (.ref (He.ga K y)) && isaB K x y (decide (x = y))))) && decide (PySem.W.kitOne K (.type "str") (.ref (He.ga K "Pattern")) = some false)
theorem patEB_ok {K : PySem.W.Frag} (h : patEB K = true) : PatE K := by
 obtain ⟨h1,h2⟩ := He.ba h
 have z := fun x (hx : Zch x) => List.all_eq_true.mp h1 x (Zf6 hx)
 have z4 := fun x (hx : Zch x) y (hy : Zch y) => List.all_eq_true.mp (He.ba (He.ba (He.ba (z x hx)).2).2).2 y (Zf6 hy)
 exact ⟨fun x hx => ⟨of_decide_eq_true (He.ba (z x hx)).1,(He.ba (He.ba (z x hx)).2).1⟩,fun x y hx hy => (He.ba (z4 x hx y hy)).1,fun x hx => (He.ba (He.ba (He.ba (z x hx)).2).2).1,fun x y hx hy => isaB_ok (He.ba (z4 x hx y hy)).2,of_decide_eq_true h2⟩
section
variable {K : PySem.W.Frag} {P : Addr → Prop} {F0 H0 F H : Hp} {v w : V} {Q : VK} {a b : Pat} {sp : Sp} {E : XK}
theorem Zi5 (T : PatF K) (U : PatE K) {y : Str} (hy : Zch y) (S : Sx P F0 H0 F H) (r : qPat.r K F v a) (k : Q (.bl (decide (a.cls = y))) H) : rIsi K [v,.ref (He.ga K y)] H Q :=
 ⟨v,_,_,_,_,rfl,.own _,tx_pat T S r,U.isc a.cls y a.isC hy,k⟩
theorem pat_eq (U : PatE K) (S : Sx P F0 H0 F H) (r : qPat.r K F v a) (r2 : qPat.r K F w b) (k : sp [v,w] H Q E) : rEqO K (He.fAd K ("Pattern",some "__eq__")) sp E v w H Q := by
 obtain ⟨p,dx,fs,rfl,h2,h3⟩ := Zc1 r S.sub
 obtain ⟨q,dy,gs,rfl,h5,h6⟩ := Zc1 r2 S.sub
 exact ⟨p,_,dx,fs,rfl,h2,U.eq a.cls a.isC,.ins h5 (U.nf a.cls b.cls a.isC b.isC),k⟩
end
def shOkS : Shp → Bool
 | .lf _ => true
 | .nd z _ _ => SeqAt.shaped (PyData.str z)
theorem rd_shEq0 {K : PySem.W.Frag} {P : Addr → Prop} {F0 H0 F H : Hp} {v : V} {Q : VK} {a : Shp} {z : Str} (S : Sx P F0 H0 F H) (h : qSh.r K F v a) (g : shOkS a = true) (gz : SeqAt.shaped (PyData.str z) = true) (k : Q (.bl (a.isOp z)) H) : rIxL K v (.int 0) H (fun x H1 => rEqD K x (.str z) H1 Q) := by
 cases a with
 | lf j =>
  refine rd_shN S h rfl ⟨.int j,.str z,.int j,.str z,rfl,gz,?_⟩
  have e : (PyData.int j).eqv (.str z) = false := by simp [PyData.eqv]
  rw [e]
  simpa [Shp.isOp,Shp.op] using k
 | nd op l r =>
  refine rd_shO S h rfl ⟨.str op,.str z,.str op,.str z,g,gz,?_⟩
  have e : (PyData.str op).eqv (.str z) = decide (op = z) := by
   simp only [PyData.eqv]
   rw [Bool.eq_iff_iff,beq_iff_eq,decide_eq_true_eq]
  rw [e]
  simpa [Shp.isOp,Shp.op] using k
theorem rd_shEq {K : PySem.W.Frag} {P : Addr → Prop} {F0 H0 F H : Hp} {v : V} {Q : VK} {a : Shp} {z : Str} {σ : L2.St} (S : Sx P F0 H0 F H) (h : qSh.r K F v a) (g : shOkS a = true) (gz : SeqAt.shaped (PyData.str z) = true) (k : Q (.bl (a.isOp z)) H) : rIxL K v (.int 0) H (fun x H1 => tC (V.str z) σ H1 fun y H2 => rEqD K x y H2 Q) :=
 rd_shEq0 S h g gz k
end Gl
namespace Gl
open PySem PySem.Spec PyProof.Rows L2 C8
section
variable {K : PySem.W.Frag} {P : Addr → Prop} {F0 H0 F H : Hp} {Q : VK} {σ : L2.St} {C p dx : Addr} {sp : Sp} {dvs : List V} {E : XK} {ta : TE} {fs : List (Str × V)}
variable {n m : Nat} {gV : List V → List V → List V} {t tk : TA} {vs zs rest : List V}
end
def nB (b : Bool) : NestedKey := .num (if b = true then 1 else 0)
theorem nB_inj : ∀ a b : Bool,nB a = nB b → a = b := by decide
def kB : Kd qB := ⟨nB,fun {K F v a} h => by cases (show v = .bl a from h); exact .bl a,nB_inj,fun a => by show 0 ≤ 8; omega⟩
def k2 {α β : Type} {A : R α} {B : R β} (D : Kd A) (G : Kd B) (hd : ∀ a,(D.k a).depth ≤ 3) (hg : ∀ a,(G.k a).depth ≤ 3) : Kd (q2 A B) := ⟨fun x => .tup [D.k x.1,G.k x.2],fun {K F v a} h => by
 obtain ⟨p,u,w,rfl,h1,h2,h3⟩ := h
 exact .tup h1 (.cons (D.is h2) (.cons (G.is h3) .nil)),fun a b h => by
 have e := NestedKey.tup.inj h
 obtain ⟨e1,e2⟩ := List.cons.inj e
 obtain ⟨e2,_⟩ := List.cons.inj e2
 exact Prod.ext (D.inj _ _ e1) (G.inj _ _ e2),fun a => by
 rw [NestedKey.depth]
 have h1 := hd a.1
 have h2 := hg a.2
 simp only [NestedKey.depthAll]
 omega⟩
def kBB : Kd (q2 qB qB) := k2 kB kB (fun _ => by show 0 ≤ 3; omega) (fun _ => by show 0 ≤ 3; omega)
class OrdR {α : Type} {B : RR α} (E : DatR B) where
 n : Nat
 al : ∀ a b,PySem.W.alikeAll (E.d a) (E.d b) = true
 dep : ∀ a,PyData.depthAll (E.d a) ≤ n
instance orE1 {α : Type} {A : R α} {D : Dat A} [o : Ord1 D] : OrdR (e1 D) where
 n := o.n
 al := fun a b => by
  show PySem.W.alikeAll [D.d a] [D.d b] = true
  simp [PySem.W.alikeAll,o.al]
 dep := fun a => by
  show PyData.depthAll [D.d a] ≤ _
  have := o.dep a
  simp only [PyData.depthAll]
  omega
instance orEc {α β : Type} {A : R α} {B : RR β} {D : Dat A} {E : DatR B} [o : Ord1 D] [p : OrdR E] : OrdR (ec D E) where
 n := max o.n p.n
 al := fun a b => by
  show PySem.W.alikeAll (D.d a.1 :: E.d a.2) (D.d b.1 :: E.d b.2) = true
  rw [PySem.W.alikeAll,o.al,p.al]; rfl
 dep := fun a => by
  show PyData.depthAll (D.d a.1 :: E.d a.2) ≤ _
  have h1 := o.dep a.1
  have h2 := p.dep a.2
  simp only [PyData.depthAll]
  omega
instance orTr {α β : Type} {A : R α} {B : RR β} {D : Dat A} {E : DatR B} [o : Ord1 D] [p : OrdR E] : Ordd (dTr (ec D E)) where
 n := max o.n p.n + 1
 al := fun a b => by
  show PySem.W.alike (.tuple ((ec D E).d a)) (.tuple ((ec D E).d b)) = true
  rw [PySem.W.alike]; exact (orEc (D := D) (E := E)).al a b
 dep := fun a => by
  show (PyData.tuple ((ec D E).d a)).depth ≤ _
  rw [PyData.depth]
  have := (orEc (D := D) (E := E)).dep a
  exact Nat.succ_le_succ this
 srt := fun bs => PySem.W.Sortable.tuples fun b => ⟨_,_,rfl⟩
end Gl
namespace Gl
open PySem PySem.Spec PyProof.Rows L2 C8
theorem R.r.up {α : Type} {A : R α} {K : PySem.W.Frag} {P : Addr → Prop} {F H F' H' : Hp} {v : V} {a : α} (h : A.r K F v a) (c : Sx P F H F' H') : A.r K F' v a := A.mono c.le h
section
variable {K : PySem.W.Frag} {P : Addr → Prop} {F H F' H' : Hp}
theorem up2 {α0 α1 : Type} {A0 : R α0} {v0 : V} {a0 : α0} {A1 : R α1} {v1 : V} {a1 : α1} (h0 : A0.r K F v0 a0) (h1 : A1.r K F v1 a1) (c : Sx P F H F' H') : A0.r K F' v0 a0 ∧ A1.r K F' v1 a1 := ⟨h0.up c,h1.up c⟩
theorem up3 {α0 α1 α2 : Type} {A0 : R α0} {v0 : V} {a0 : α0} {A1 : R α1} {v1 : V} {a1 : α1} {A2 : R α2} {v2 : V} {a2 : α2} (h0 : A0.r K F v0 a0) (h1 : A1.r K F v1 a1) (h2 : A2.r K F v2 a2) (c : Sx P F H F' H') : A0.r K F' v0 a0 ∧ A1.r K F' v1 a1 ∧ A2.r K F' v2 a2 := ⟨h0.up c,h1.up c,h2.up c⟩
theorem up4 {α0 α1 α2 α3 : Type} {A0 : R α0} {v0 : V} {a0 : α0} {A1 : R α1} {v1 : V} {a1 : α1} {A2 : R α2} {v2 : V} {a2 : α2} {A3 : R α3} {v3 : V} {a3 : α3} (h0 : A0.r K F v0 a0) (h1 : A1.r K F v1 a1) (h2 : A2.r K F v2 a2) (h3 : A3.r K F v3 a3) (c : Sx P F H F' H') : A0.r K F' v0 a0 ∧ A1.r K F' v1 a1 ∧ A2.r K F' v2 a2 ∧ A3.r K F' v3 a3 := ⟨h0.up c,h1.up c,h2.up c,h3.up c⟩
theorem up5 {α0 α1 α2 α3 α4 : Type} {A0 : R α0} {v0 : V} {a0 : α0} {A1 : R α1} {v1 : V} {a1 : α1} {A2 : R α2} {v2 : V} {a2 : α2} {A3 : R α3} {v3 : V} {a3 : α3} {A4 : R α4} {v4 : V} {a4 : α4} (h0 : A0.r K F v0 a0) (h1 : A1.r K F v1 a1) (h2 : A2.r K F v2 a2) (h3 : A3.r K F v3 a3) (h4 : A4.r K F v4 a4) (c : Sx P F H F' H') : A0.r K F' v0 a0 ∧ A1.r K F' v1 a1 ∧ A2.r K F' v2 a2 ∧ A3.r K F' v3 a3 ∧ A4.r K F' v4 a4 := ⟨h0.up c,h1.up c,h2.up c,h3.up c,h4.up c⟩
end
section
variable {F H F' H' : Hp}
theorem wup2 {Q0 P1 : Addr → Prop} {H0 H1 : Hp} {p0 p1 : Addr} {o0 o1 : HO} (h0 : Ow Q0 H0 F H p0 o0) (h1 : Ow P1 H1 F H p1 o1) (c : Sx P0 F H F' H') : Ow Q0 H0 F' H' p0 o0 ∧ Ow P1 H1 F' H' p1 o1 := ⟨h0.call0 c,h1.call0 c⟩
end
section
variable {α : Type} {A : R α} {K : PySem.W.Frag} {F H H0 : Hp} {P : Addr → Prop} {p : Addr} {vs : List V} {xs : List α}
theorem Ow.dS (w : Ow P H0 F H p (.lst vs)) (S : Same F H) (D : Dat A) (r : Row A K F vs xs) : SeenD (dL D) K H (.ref p) xs := .lst (SqL.of w.at_) (dpAll D (Row.mono S r))
end
end Gl
namespace Gl
open PySem PySem.Spec PyProof.Rows L2
class KDp {α : Type} {A : R α} (D : Kd A) where
 n : Nat
 le : ∀ a,(D.k a).depth ≤ n
 nn : ∀ a,D.k a ≠ .none
instance : KDp kI := ⟨0,fun _ => Nat.le_refl _,fun _ h => by cases h⟩
instance : KDp kB := ⟨0,fun _ => Nat.le_refl _,fun _ h => by cases h⟩
def kS : Kd qS := ⟨.text,fun {K F v a} h => by cases (show v = .str a from h); exact .txt a,fun a b h => by cases h; rfl,fun a => by show 0 ≤ 8; omega⟩
instance : KDp kS := ⟨0,fun _ => Nat.le_refl _,fun _ h => by cases h⟩
def kO {α : Type} {A : R α} (D : Kd A) [i : KDp D] : Kd (qO A) := ⟨fun o => match o with
 | none => .none
 | some a => D.k a,fun {K F v a} h => by
  cases a with
  | none => cases (show v = .non from h); exact .non
  | some a => exact D.is h,fun a b h => by
  cases a with
  | none => cases b with
   | none => rfl
   | some b => exact absurd h.symm (i.nn b)
  | some a => cases b with
   | none => exact absurd h (i.nn a)
   | some b => exact congrArg some (D.inj a b h),fun a => by
  cases a with
  | none => show 0 ≤ 8; omega
  | some a => exact D.dep a⟩
structure KdR {α : Type} (B : RR α) where
 ks : α → List NestedKey
 is : ∀ {K : PySem.W.Frag} {F : Hp} {vs : List V} {a : α},B.r K F vs a → NKs K F (ks a) vs
 inj : ∀ a b : α,ks a = ks b → a = b
 dep : ∀ a : α,NestedKey.depthAll (ks a) ≤ 7
class KLow {α : Type} {A : R α} (D : Kd A) : Prop where
 le : ∀ a,(D.k a).depth ≤ 7
instance : KLow kI := ⟨fun _ => by show 0 ≤ 7; omega⟩
instance : KLow kB := ⟨fun _ => by show 0 ≤ 7; omega⟩
instance : KLow kS := ⟨fun _ => by show 0 ≤ 7; omega⟩
instance {α : Type} {A : R α} {D : Kd A} [i : KDp D] [j : KLow D] : KLow (kO D) := ⟨fun a => by
 cases a with
 | none => show 0 ≤ 7; omega
 | some a => exact j.le a⟩
instance : KLow kBB := ⟨fun a => by
 show NestedKey.depth (.tup [nB a.1,nB a.2]) ≤ 7
 rw [NestedKey.depth]
 simp only [NestedKey.depthAll]
 have h1 : (nB a.1).depth = 0 := rfl
 have h2 : (nB a.2).depth = 0 := rfl
 omega⟩
def g1 {α : Type} {A : R α} (D : Kd A) [i : KLow D] : KdR (f1 A) := ⟨fun a => [D.k a],fun ⟨u,h1,h2⟩ => by subst h1; exact .cons (D.is h2) .nil,fun a b h => D.inj _ _ (List.cons.inj h).1,fun a => by
 simp only [NestedKey.depthAll]
 have := i.le a
 omega⟩
end Gl
namespace Gl
open PySem PySem.Spec PyProof.Rows L2
end Gl
namespace Gl
open PySem PySem.Spec PyProof.Rows L2
end Gl
namespace Gl
open PySem PySem.Spec PyProof.Rows L2 C8
end Gl
namespace Gl
open PySem PySem.Spec PyProof.Rows L2
end Gl
namespace Gl
open PySem PySem.Spec PyProof.Rows L2
theorem Zi7 {X : Cx} {K : PySem.W.Frag} {p pos : Pos} {a : Expr} {ta : TE} (hK : X.K = K) (hg : L2.Gl X "tuple") (hm : X.mg "tuple" = none) (ha : PE X a ta) (na : starEach [a] X.env = (false,eval a X.env) :: starEach [] X.env := by rfl) :
 PE X (.Call (.Name "tuple" p) [a] [] pos) (tThen ta (kTup K)) := hK ▸ pe_tupleOf hg hm ha na
end Gl
namespace Gl
open PySem PySem.Spec PyProof.Rows L2
theorem dk {p : Prop} [Decidable p] (h : decide p = true) : p := of_decide_eq_true h
instance locDec {sc : Scope} {x : Str} : Decidable (Loc sc x) := inferInstanceAs (Decidable (sc.names.lookup x = some .local ∨ sc.names.lookup x = some .cell))
end Gl
namespace Gl
open PySem PySem.Spec PyProof.Rows L2
structure OwnNe (K : PySem.W.Frag) (C : Addr) : Prop where
 ne : PySem.W.findIn K (.ref C) "__ne__" = some (some (.builtin "object.__ne__"))
 mro : PySem.W.mroIn K C (.type "object") = some true
def rNeO (K : PySem.W.Frag) (f : Addr) (sp : Sp) (E : XK) : R2 := fun x y H Q => ∃ a C dx fs,x = .ref a ∧ H a = some (.ins C dx fs) ∧ OwnEq K C f ∧ OwnNe K C ∧ RightOk K H C y ∧ sp [x,y] H (fun r H' => ∃ b,r = .bl b ∧ Q (.bl (!b)) H') E
end Gl
namespace Gl
open PySem PySem.W PySem.Calls PyProof.Rows
section
variable {M : Model} {prog : Program} {w : World} {A : Around} {E : Value → Shared → Prop} {s : Shared} {K : Frag} {x C f : Addr} {ox : Obj} {od : Option Obj} {b tb : Value}
theorem Zk0 {args : List Value} {Q : Option Value → Shared → Prop} (X : K.In s.heap) (I : InstAt s.heap x ox C od) (hs : findIn K (.ref C) "__ne__" = some (some (.builtin "object.__ne__")))
 (h : wpAny M A (call (.builtin "object.__ne__") (.ref x :: args)) (fun v => Q (some v)) E s) : wpAny M A (callSpecialIfBound? (.ref x) "__ne__" args) Q E s := by
 simp only [callSpecialIfBound?,bindSpecialIfBound?]
 refine wpAny_holding (wpAny_bind (wpAny_bind (wpAny_bind (I.type.here ((looks_findIn X hs).here ?_)))))
 refine wpAny_bind (wpAny_askSetting (wpAny_ite ?_))
 have fin : wpAny M A (call (.builtin "object.__ne__") ([.ref x] ++ args) >>= fun v => pure (some v)) Q E s := wpAny_bind (wpAny_mono h (fun v s' h' => wpAny_pure h') fun _ _ h' => h')
 split
 ·exact wpAny_bind (wpAny_of_eq (F.cmp_object.ne.bind _) (wpAny_pure (by exact fin)))
 ·exact wpAny_tryCatch (wpAny_bind (wpAny_of_eq (F.cmp_object.ne.bind _) (wpAny_pure (by exact fin))))
theorem entry_ne {Q : Fin → Shared → Prop} (hu : A.units < cLine) (X : K.In s.heap) (I : InstAt s.heap x ox C od) (hs : findIn K (.ref C) "__eq__" = some (some (.ref f))) (hf : isFn K (.ref f) = true)
 (h : wpAny M A (call (.ref f) [.ref x,b]) (fun v s' => ∃ r,v = .bool r ∧ Q (.done (.ret (.bool (!r)))) s') E s) : wpAny M A (Builtin.«object.__ne__» ⟨[.ref x,b],[]⟩) Q E s := by
 unfold Builtin.«object.__ne__»
 refine wpAny_bind ?_
 repeat (first | with_reducible refine wpAny_cRoomFor hu ?_ | with_reducible refine ifBound_K X I hs hf (wpAny_mono h (fun v s' hv => ?_) fun _ _ e => e) | wp_step)
 obtain ⟨r,rfl,q⟩ := hv
 refine wpAny_bind (wpAny_truthy_bool ?_)
 exact wpAny_pure q
theorem call_objNe {Q : Value → Shared → Prop} (hu : A.in1.units < cLine) (X : K.In s.heap) (I : InstAt s.heap x ox C od) (hm : mroIn K C (.type "object") = some true) (hs : findIn K (.ref C) "__eq__" = some (some (.ref f))) (hf : isFn K (.ref f) = true)
 (h : wpAny (model prog w) A.in1 (call (.ref f) [.ref x,b]) (fun v s' => ∃ r,v = .bool r ∧ Q (.bool (!r)) s') E s) :
 wpAny (model prog w) A (call (.builtin "object.__ne__") [.ref x,b]) Q E s :=
 wpAny_call (codeAny_call_builtin PySem.F.cmp_object.ne.plain PySem.F.cmpEntry_ne (PySem.W.check_slot PySem.F.cmpKind_ne PySem.F.cmpSplit_ne (I.type.andThen (PySem.W.looks_mroIn X hm)) (PySem.F.cmpArgs_ne _ _) (entry_ne hu X I hs hf h)))
theorem cmp_ne {Q : Value → Shared → Prop} (hu : A.units < cLine) (hu1 : A.in1.units < cLine) (X : K.In s.heap) (I : InstAt s.heap x ox C od) (hb : Looks (model prog w) s.heap (typeOf b) tb) (hn : notFirst K C tb = true)
 (hne : findIn K (.ref C) "__ne__" = some (some (.builtin "object.__ne__"))) (hm : mroIn K C (.type "object") = some true) (hs : findIn K (.ref C) "__eq__" = some (some (.ref f))) (hf : isFn K (.ref f) = true)
 (h : wpAny (model prog w) A.in1 (call (.ref f) [.ref x,b]) (fun v s' => ∃ r,v = .bool r ∧ Q (.bool (!r)) s') E s) : wpAny (model prog w) A (richCompare .NotEq (.ref x) b) Q E s := by
 have one : wpAny (model prog w) A (tryCompare (.ref x) "__ne__" b) (fun r s' => ∃ v,r = some v ∧ Q v s') E s := by
  unfold tryCompare
  refine wpAny_bind (Zk0 X I hne (call_objNe hu1 X I hm hs hf (wpAny_mono h (fun v s' hv => ?_) fun _ _ e => e)))
  obtain ⟨r,rfl,q⟩ := hv
  exact ⟨r,rfl,wpAny_pure ⟨_,rfl,q⟩⟩
 unfold richCompare
 simp only [oneThing_ref]
 refine wpAny_holding (wpAny_bind (wpAny_cRoomFor hu ?_))
 refine wpAny_bind (I.type.here (wpAny_bind (hb.here ?_)))
 split
 ·rename_i q
  have e : subIn K tb (.ref C) = some false := by
   rcases Bool.or_eq_true_iff.mp hn with e | e
   ·rw [beq_iff_eq.mp e] at q; simp at q
   ·exact beq_iff_eq.mp e
  refine wpAny_bind ((looks_subIn X e).here ?_)
  simp only [Bool.false_eq_true,if_false]
  refine wpAny_bind (wpAny_mono one (fun r s' z => ?_) fun _ _ e => e)
  obtain ⟨v,rfl,hq⟩ := z
  exact wpAny_pure hq
 ·refine wpAny_bind (wpAny_pure ?_)
  simp only [Bool.false_eq_true,if_false]
  refine wpAny_bind (wpAny_mono one (fun r s' z => ?_) fun _ _ e => e)
  obtain ⟨v,rfl,hq⟩ := z
  exact wpAny_pure hq
end
end Gl
namespace Gl
open PySem PySem.Spec PyProof.Rows L2
section
variable {X : Cx} {CX : CXT} {k : Nat} {f : Addr} {fd : FuncData} {ps : List Str} {sp : Sp} {E : XK}
theorem op_neO (F : FnOk X.prog X.w X.K X.mg X.base CX k f fd ps sp) (hr : Room (k + 1) X.A) (hb : Binds X.K fd ps []) (hx : Passes CX X E) : OpR X (compareOp .NotEq) (rNeO X.K f sp E) := by
 intro pins s σ H x y v u Q I rx ry h
 obtain ⟨a,C,dx,fs,rfl,e1,o,n,ro,h⟩ := h
 cases rx
 obtain ⟨ox,od,J,_⟩ := StX.insC_at I (.inr ⟨dx,fs,e1⟩)
 have back : wpAny (model X.prog X.w) X.A.in1 (call (.ref f) [.ref a,u]) (fun v s' => ∃ r,v = .bool r ∧ EP X pins σ Q (.bool (!r)) s') X.xe s := by
  have e0 : Env0 X.prog X.w X.K X.mg X.base X.A.in1 X.stack s H := by
   have e := I.env0
   exact ⟨e.frames,e.mod,e.bs,e.bsz,e.funs,e.frf,e.hok,e.bare⟩
  have hl := F.len _ _ _ _ h
  have r2 : Vals [V.ref a,y] [Value.ref a,u] := .cons rfl (.cons ry .nil)
  refine wpAny_call (codeAny_mono (F.run X.A.in1 X.stack s H ⟨[.ref a,u],[]⟩ [.ref a,u] [.ref a,y] _ E hr.in1 e0 (by
   have := hb s [.ref a,u] I.kIn (by simpa using hl)
   simpa using this) r2 h) fun r s' hq => ?_)
  cases r with
  | error e => exact hx pins σ H s e s' I hq
  | ok fl =>
   cases fl with
   | ret w =>
    obtain ⟨z,H',I',rz,b,ez,q⟩ := I.after hq
    subst ez
    cases rz
    exact ⟨b,rfl,.bl _,H',I',rfl,q⟩
   | next => exact False.elim hq
   | brk => exact False.elim hq
   | cont => exact False.elim hq
 have hu : X.A.units < cLine := hr.units0
 have hu1 : X.A.in1.units < cLine := hr.in1.units0
 show wpAny _ _ (richCompare .NotEq (.ref a) u) _ _ s
 cases ro with
 | @ins b D dy gs e2 nf =>
  obtain rfl : u = Value.ref b := ry
  obtain ⟨oy,oe,J2,_⟩ := StX.insC_at I (.inr ⟨dy,gs,e2⟩)
  exact cmp_ne hu hu1 I.kIn J J2.type nf n.ne n.mro o.at_ o.fn back
 | str z nf =>
  obtain ⟨t,rfl⟩ := ry
  exact cmp_ne hu hu1 I.kIn J (PySem.W.Looks.of_pure rfl) nf n.ne n.mro o.at_ o.fn back
end
def neK (Q : VK) : VK := fun r H => ∃ b,r = .bl b ∧ Q (.bl (!b)) H
section
variable {K : PySem.W.Frag} {P : Addr → Prop} {F0 H0 F H : Hp} {w : V} {Q : VK} {E : XK} {sp : Sp} {C : Str} {p q dx dy : Addr} {fs gs : List (Str × V)} {b : Pat}
theorem rd_neK {c : Bool} (k : Q (.bl (!c)) H) : neK Q (.bl c) H := ⟨c,rfl,k⟩
end
end Gl
namespace Gl
open PySem PySem.Spec PyProof.Rows L2
end Gl
namespace Gl
open PySem PySem.Spec PyProof.Rows L2
def IteS (x : Str) : It :=
 ⟨fun i _ => i < x.cps.size,fun i H v H' => ∃ T c,v = .ref T ∧ H T = none ∧ H' = upd H T (.tup [.int (i : Nat),.str ⟨#[c]⟩]) ∧ x.cps[i]? = some c,fun i _ => i = x.cps.size⟩
theorem turn_enumS {P : Program} {w : World} {K : PySem.W.Frag} {elts : List Expr} {kk : Nat} {tpos : Pos} (x : Str) (t : Tok) (e it : Addr) :
 Turn P w K (.Tuple elts kk tpos) (IteS x) [e,it] e (fun i h => (∃ old,IsEnum h e it ((i : Nat) : Int) old) ∧ h.IsStrIter it (strIterType x) x t i ∧ e ≠ it) where
 mem := by simp
 obj := fun i h st b hb => by
  obtain ⟨⟨old,he⟩,⟨o,ho,hc,hd⟩,_⟩ := st
  have z : b = e ∨ b = it := by simpa using hb
  rcases z with z | z
  ·rw [z]; exact ⟨_,he,fun v q => nomatch q⟩
  ·rw [z]; exact ⟨o,ho,fun v q => by rw [hd] at q; cases q⟩
 keep := fun i h h' st k => let ⟨⟨old,he⟩,⟨o,ho,r⟩,hne⟩ := st; ⟨⟨old,k e (by simp) _ he⟩,⟨o,k it (by simp) o ho,r⟩,hne⟩
 item := by
  intro X hP hw hK hc i pins s σ H E I hf st hg
  subst hP hw hK
  obtain ⟨⟨old,he⟩,hit,hne⟩ := st
  have hel : e < s.heap.objs.size := Heap.lt_size he
  have hil : it < s.heap.objs.size := by obtain ⟨_,q,_⟩ := hit; exact Heap.lt_size q
  refine wpAny_pyNext_enum_itemD (Draws.text (A := X.A.in1) (show X.A.handled = none from I.ok.hd hc) it x t) he hit hg hne (by simpa using hne) fun u h' tk hPu ho hit' hT hsz hk => ?_
  obtain ⟨c,tk2,hcx,rfl⟩ := hPu
  refine ⟨_,rfl,wpAny_letOwnedTupleGo_enum (s := { s with heap := h',toks := tk + 1 }) ho fun h'' he' sb => ?_⟩
  have hT2 : h''.get? s.heap.objs.size = some { cls := .type "tuple",data := .seq #[.int i tk,.str ⟨#[c]⟩ tk2] } := (sb.2 _ (Nat.ne_of_gt hel)).trans hT
  have new : ObjOk X.prog X.w (upd H s.heap.objs.size (.tup [.int (i : Nat),.str ⟨#[c]⟩])) h'' s.heap.objs.size (.tup [.int (i : Nat),.str ⟨#[c]⟩]) :=
   ⟨by show 2 ≤ sizeLine; decide,[.int i tk,.str ⟨#[c]⟩ tk2],.cons ⟨_,rfl⟩ (.cons ⟨_,rfl⟩ .nil),⟨_,hT2,rfl,_,rfl⟩⟩
  have I1 : Inv X pins σ (upd H s.heap.objs.size (.tup [.int (i : Nat),.str ⟨#[c]⟩])) { s with heap := h'',toks := tk + 1 } :=
   I.turnedNew (ch := [e,it]) (fun b ob hb q => (sb.2 b (fun z => hb (by simp [z]))).trans (hk b ob (fun z => hb (by simp [z])) (fun z => hb (by simp [z])) q)) hf (Nat.le_refl _) new
  refine ⟨.ref s.heap.objs.size,_,I1,rfl,⟨_,c,rfl,I.hok.fresh (Nat.le_refl _),rfl,hcx⟩,⟨⟨.str ⟨#[c]⟩ tk2,?_⟩,?_,hne⟩,fun b hb => ?_⟩
  ·have e1 : ((i + 1 : Nat) : Int) = (i : Int) + 1 := by omega
   rw [e1]; exact he'
  ·obtain ⟨o,ho2,r⟩ := hit'
   exact ⟨o,(sb.2 it (Ne.symm hne)).trans ho2,r⟩
  ·have hb' : b < s.heap.objs.size := by
    have z : b = e ∨ b = it := by simpa using hb
    rcases z with z | z
    ·rw [z]; exact hel
    ·rw [z]; exact hil
   rw [upd_ne (Nat.ne_of_lt hb')]
   exact (hf b hb).1
 done := by
  intro X hP hw hK hc i pins s σ H E I hf st hg
  subst hP hw hK
  obtain ⟨⟨old,he⟩,hit,hne⟩ := st
  have hg : i = x.cps.size := hg
  subst hg
  obtain ⟨f0,f1,f2,f3,f4,f5⟩ := hf it (by simp)
  exact wpAny_pyNext_enum_endD (Draws.text (A := X.A.in1) (show X.A.handled = none from I.ok.hd hc) it x t) he hit fun h' eb => ⟨rfl,I.turned (t' := s.toks) (fun b o hb q => eb b o hb q) f0 f1 f3 f4 f5⟩
 self := fun A i s Q E st h => let ⟨⟨_,he⟩,_⟩ := st; wpAny_pyIter_enum he h
def iEnumS (ta : TA) : TI := fun σ H R => ta σ H fun vs H1 => ∃ x,vs = [.str x] ∧ R (IteS x) H1
theorem pi_enumS {X : Cx} {e : Expr} {ta : TA} {p pos tpos : Pos} {elts : List Expr} {kk : Nat} (hg : Gl X "enumerate") (hm : X.mg "enumerate" = none) (ha : PA X [e] ta) (hs : starEach [e] X.env = [(false,eval e X.env)] := by rfl) :
 PI X (.Tuple elts kk tpos) (.Call (.Name "enumerate" p) [e] [] pos) (iEnumS ta) := by
 refine ⟨fun pins s σ H R I h => ?_⟩
 refine Call_ (ld_blt I hg hm boot_enumerate (PyProof.Rows.callWith_type1 (thn (ha.run pos pins s σ H _ I h) fun us s1 ⟨vs,H1,I1,r1,q1⟩ => ?_) hs rfl))
 obtain ⟨x,ex,q⟩ := q1
 subst ex
 cases r1 with
 | cons r rr =>
  cases rr
  obtain ⟨t,rfl⟩ := r
  refine call_enumerate_str fun h' he hit hsz hk => wpAny_pyIter_enum he ?_
  have I2 : Inv X pins σ H1 { s1 with heap := h' } := I1.kept (t' := s1.toks) hk
  refine ⟨s1.heap.objs.size + 1,[s1.heap.objs.size + 1,s1.heap.objs.size],_,_,H1,rfl,I2,turn_enumS x t (s1.heap.objs.size + 1) s1.heap.objs.size,⟨⟨.none,he⟩,hit,Nat.succ_ne_self _⟩,fun b hb => ?_,q⟩
  have z : b = s1.heap.objs.size + 1 ∨ b = s1.heap.objs.size := by simpa using hb
  have hle : s1.heap.objs.size ≤ b := by
   rcases z with z | z
   ·rw [z]; exact Nat.le_add_right _ _
   ·rw [z]; exact Nat.le_refl _
  exact I1.fpOk hle (I1.hok.fresh hle)
theorem feedsES {z : Str} : Feeds2 (IteS z) z.cps.size (fun _ => True) (fun i u w => u = .int (i : Nat) ∧ ∃ c,z.cps[i]? = some c ∧ w = .str ⟨#[c]⟩) :=
 ⟨fun i H h _ => h,fun H _ => rfl,fun i H x H' h _ ⟨T,c,e1,e2,e3,e4⟩ => ⟨T,_,_,e1,e2,e3,rfl,c,e4,rfl⟩⟩
theorem sgns_at {z : Str} {i c : Nat} (h : z.cps[i]? = some c) : (sgns z)[i]? = some ⟨#[c]⟩ := by
 unfold sgns
 rw [List.getElem?_map,Array.getElem?_toList,h]; rfl
theorem typedES {K : PySem.W.Frag} {F : Hp} {z : Str} : Typed2 qI qS K F z.cps.size (fun i u w => u = .int (i : Nat) ∧ ∃ c,z.cps[i]? = some c ∧ w = .str ⟨#[c]⟩) (enumI (sgns z)) :=
 ⟨by rw [enumI_len]; unfold sgns; rw [List.length_map,Array.length_toList],fun i u w ⟨e1,c,e2,e3⟩ => ⟨((i : Int),⟨#[c]⟩),enumI_at (sgns_at e2),e1,e3⟩⟩
def wES (RI : It → Hp → Prop) : List V → Hp → Prop := fun vs H1 => ∃ x,vs = [.str x] ∧ RI (IteS x) H1
theorem rd_iES {tr : TA} {σ : L2.St} {H : Hp} {RI : It → Hp → Prop} (k : tr σ H (wES RI)) : iEnumS tr σ H RI := k
theorem rd_wES {x : Str} {H : Hp} {RI : It → Hp → Prop} (k : RI (IteS x) H) : wES RI [.str x] H := ⟨x,rfl,k⟩
theorem rd_mSS {a b : Str} {R : Str → Str → Prop} (k : R a b) : ∃ a' b' : Str,V.str a = .str a' ∧ [V.str b] = [.str b'] ∧ R a' b' := ⟨a,b,rfl,rfl,k⟩
theorem rd_mSSI {a b : Str} {i : Int} {R : Str → Str → Int → Prop} (k : R a b i) : ∃ (a' b' : Str) (i' : Int),V.str a = .str a' ∧ [V.str b,V.int i] = [.str b',.int i'] ∧ R a' b' i' := ⟨a,b,i,rfl,rfl,k⟩
def patNB (K : PySem.W.Frag) : Bool := patCs.all fun x => decide (PySem.W.findIn K (.ref (He.ga K x)) "__ne__" = some (some (.builtin "object.__ne__"))) && decide (PySem.W.mroIn K (He.ga K x) (.type "object") = some true)
theorem pat_ne {K : PySem.W.Frag} {P : Addr → Prop} {F0 H0 F H : Hp} {v w : V} {Q : VK} {a b : Pat} {sp : Sp} {E : XK} (U : PatE K) (N : patNB K = true) (S : Sx P F0 H0 F H) (r : qPat.r K F v a) (r2 : qPat.r K F w b) (k : sp [v,w] H (neK Q) E) : rNeO K (He.fAd K ("Pattern",some "__eq__")) sp E v w H Q := by
 obtain ⟨p,dx,fs,rfl,h2,h3⟩ := Zc1 r S.sub
 obtain ⟨q,dy,gs,rfl,h5,h6⟩ := Zc1 r2 S.sub
 obtain ⟨n1,n2⟩ := He.ba (List.all_eq_true.mp N _ (Zf6 a.isC))
 exact ⟨p,_,dx,fs,rfl,h2,U.eq a.cls a.isC,⟨of_decide_eq_true n1,of_decide_eq_true n2⟩,.ins h5 (U.nf a.cls b.cls a.isC b.isC),k⟩
def tMakeRS (K : PySem.W.Frag) (C : Addr) (sp : Sp) (E : XK) (te : TE) : TE := fun σ H Q => te σ H fun y H1 => ∃ a xs,y = V.ref a ∧ (SqT K H1 a xs ∨ SqL K H1 a xs) ∧ mkK C sp E Q xs H1
section
variable {X : Cx} {CX : CXT} {k i : Nat} {f C : Addr} {sp : Sp} {E : XK} {x : Str} {e : Expr} {te : TE} {p sp_ pos : Pos}
theorem pe_makeRS (M : Mk X.K C f) (F : FnR X.prog X.w X.K X.mg X.base CX k f sp) (hr : Room (k + 1) X.A) (hg : Gl X x) (hm : X.mg x = some (.ref C)) (hx : Passes CX X E) (he : PE X e te) (hd : (x == ("__debug__" : Str)) = false := by decide)
 (hst : starEach [.Starred e sp_] X.env = [(true,eval e X.env)] := by rfl) : PE X (.Call (.Name x p) [.Starred e sp_] [] pos) (tMakeRS X.K C sp E te) := by
 refine ⟨fun pins s σ H Q I h => ?_⟩
 refine wpAny_Call_Name_kw (ld_glob I hg hm ?_ hd)
 refine PySem.W.callWith_S (h₀ := X.base) I.ok.mod.kin M.kp (thn (he.run pins s σ H _ I h) fun v s1 ⟨y,H1,I1,ry,a,xs,ey,hxs,q⟩ => ?_) hst
 subst ey
 obtain rfl : v = Value.ref a := ry
 exact StX.star_any I1 hxs fun us s2 I2 rv => ⟨I2.kIn,StX.run_makeR M F hr hx I2 rv q⟩
end
theorem pe_makeRSK {K : PySem.W.Frag} {X : Cx} {CX : CXT} {k : Nat} {f C : Addr} {sp : Sp} {E : XK} {x : Str} {e : Expr} {te : TE} {p sp_ pos : Pos} (M : Mk X.K C f) (F : FnR X.prog X.w X.K X.mg X.base CX k f sp) (hr : Room (k + 1) X.A) (hg : Gl X x) (hm : X.mg x = some (.ref C)) (hx : Passes CX X E) (he : PE X e te) (hK : X.K = K := by rfl) (hd : (x == ("__debug__" : Str)) = false := by decide)
 (hst : starEach [.Starred e sp_] X.env = [(true,eval e X.env)] := by rfl) : PE X (.Call (.Name x p) [.Starred e sp_] [] pos) (tMakeRS K C sp E te) := by
 subst hK; exact pe_makeRS M F hr hg hm hx he hd hst
theorem rd_makeRS {K : PySem.W.Frag} {C : Addr} {sp : Sp} {E : XK} {te : TE} {σ : L2.St} {H : Hp} {Q : VK} (k : te σ H fun y H1 => ∃ a xs,y = V.ref a ∧ (SqT K H1 a xs ∨ SqL K H1 a xs) ∧ mkK C sp E Q xs H1) : tMakeRS K C sp E te σ H Q := k
theorem rd_st1 {K : PySem.W.Frag} {P : Addr → Prop} {F0 H0 F H : Hp} {v : V} {α : Type} {A : R α} {xs : List α} {Z : List V → Prop} (S : Sx P F0 H0 F H) (r : (qL A).r K F v xs) (k : ∀ vs,Row A K F vs xs → vs.length = xs.length → Z vs) : ∃ a ys,v = V.ref a ∧ (SqT K H a ys ∨ SqL K H a ys) ∧ Z ys := by
 obtain ⟨p,vs,rfl,h,r⟩ := r
 exact ⟨p,vs,rfl,.inr (SqL.of (S.sub _ _ h)),k vs r (pLen r)⟩
end Gl
namespace Gl
open PySem PySem.Spec PyProof.Rows L2
def Ok {α : Type} (x : Option α) (Q : α → Prop) : Prop := ∃ a,x = some a ∧ Q a
section
variable {α β S ρ : Type} {x y : Option α} {P Q : α → Prop} {f : α → Option β} {R : β → Prop} {a : α} {b : Bool}
theorem Ok.sm (h : Q a) : Ok (some a) Q := ⟨a,rfl,h⟩
theorem Ok.bd (h : Ok x P) (k : ∀ a,P a → Ok (f a) R) : Ok (x.bind f) R := by
 obtain ⟨a,rfl,p⟩ := h
 exact k a p
theorem Ok.bde (h : x = some a) (k : Ok (f a) R) : Ok (x.bind f) R := by
 rw [h]; exact k
theorem Ok.gd (h : b = true) (k : Ok x Q) : Ok (gd b x) Q := by rw [Zao h]; exact k
theorem Ok.ite (h1 : b = true → Ok x Q) (h2 : b = false → Ok y Q) : Ok (if b = true then x else y) Q := by
 cases b with
 | true => exact h1 rfl
 | false => exact h2 rfl
theorem Ok.mono (h : Ok x P) (k : ∀ a,P a → Q a) : Ok x Q := let ⟨a,e,p⟩ := h; ⟨a,e,k a p⟩
theorem Ok.eq {a : α} (h : Ok x fun r => r = a) : x = some a := let ⟨b,e,p⟩ := h; p ▸ e
theorem Ok.of (h : x = some a) (k : Q a) : Ok x Q := ⟨a,h,k⟩
theorem Ok.loop {f : α → S → Option S} {xs : List α} {s0 : S} (I : List α → S → Prop) (h0 : I [] s0) (hs : ∀ pre x post s,xs = pre ++ x :: post → I pre s → Ok (f x s) (I (pre ++ [x]))) : Ok (Zbt f xs s0) (I xs) := by
 have key : ∀ (post pre : List α) (s : S),xs = pre ++ post → I pre s → Ok (Zbt f post s) (I xs) := by
  intro post
  induction post with
  | nil => intro pre s e h; rw [List.append_nil] at e; subst e; exact ⟨s,rfl,h⟩
  | cons x post ih =>
   intro pre s e h
   obtain ⟨s',e1,h1⟩ := hs pre x post s e h
   obtain ⟨r,e2,h2⟩ := ih (pre ++ [x]) s' (by rw [e]; simp) h1
   exact ⟨r,by show (f x s).bind _ = _; rw [e1]; exact e2,h2⟩
 exact key xs [] s0 rfl h0
theorem Ok.loopN {f : α → S → Option (Ctl S ρ)} {xs : List α} {s0 : S} (I : List α → S → Prop) (h0 : I [] s0) (hs : ∀ pre x post s,xs = pre ++ x :: post → I pre s → Ok (f x s) fun c => ∃ s',c = .nx s' ∧ I (pre ++ [x]) s') : Ok (Zh3 f xs s0) fun c => ∃ s',c = .nx s' ∧ I xs s' := by
 have key : ∀ (post pre : List α) (s : S),xs = pre ++ post → I pre s → Ok (Zh3 f post s) fun c => ∃ s',c = .nx s' ∧ I xs s' := by
  intro post
  induction post with
  | nil => intro pre s e h; rw [List.append_nil] at e; subst e; exact ⟨_,rfl,s,rfl,h⟩
  | cons x post ih =>
   intro pre s e h
   obtain ⟨_,e1,s',rfl,h1⟩ := hs pre x post s e h
   obtain ⟨r,e2,h2⟩ := ih (pre ++ [x]) s' (by rw [e]; simp) h1
   exact ⟨r,by show (f x s).bind _ = _; rw [e1]; exact e2,h2⟩
 exact key xs [] s0 rfl h0
theorem Zji {f : α → Unit → Option (Option β × Unit)} {g : α → Option β} : ∀ {xs : List α},(∀ x ∈ xs,f x () = some (g x,())) → comp f xs () = some (xs.filterMap g,())
 | [],_ => rfl
 | x :: xs,h => by
  show (f x ()).bind _ = _
  rw [h x List.mem_cons_self]
  show ((comp f xs ()).bind fun r => some (match g x with
   | some y => (y :: r.1,r.2)
   | none => r)) = _
  rw [Zji fun y hy => h y (List.mem_cons_of_mem _ hy),List.filterMap_cons]
  cases g x <;> rfl
end
theorem Zhl {α : Type} {p : α → Bool} : ∀ xs : List α,xs.filterMap (fun x => if p x = true then some x else none) = xs.filter p
 | [] => rfl
 | x :: xs => by
  rw [List.filterMap_cons,List.filter_cons,Zhl xs]
  cases p x <;> rfl
def cl (s : Str) : List Nat := s.cps.toList
theorem Zhn {a b : Str} (h : cl a = cl b) : a = b := by
 obtain ⟨a⟩ := a; obtain ⟨b⟩ := b
 exact congrArg Str.mk (Array.toList_inj.mp h)
theorem Zas (s : Str) : s.length = (cl s).length := (Array.length_toList).symm
theorem Zjj (a b : Str) : cl (a ++ b) = cl a ++ cl b := Array.toList_append
theorem cl_sg (c : Nat) : cl ⟨#[c]⟩ = [c] := rfl
theorem Zhw (s : Str) : sgns s = (cl s).map fun c => ⟨#[c]⟩ := rfl
theorem Zfy (z : Str) (lo hi : Option Int) : cl (cutS z lo hi) = cut (cl z) lo hi := by
 unfold cl cutS cut
 rw [List.toList_toArray]
 show _ = List.take (HT.sIx z.cps.toList.length z.cps.toList.length hi - HT.sIx z.cps.toList.length 0 lo) (List.drop (HT.sIx z.cps.toList.length 0 lo) z.cps.toList)
 rw [Array.length_toList]
 rfl
theorem sIx_nn {n d : Nat} {k : Int} (h : 0 ≤ k) : HT.sIx n d (some k) = min k.toNat n := by
 obtain ⟨m,rfl⟩ := Int.eq_ofNat_of_zero_le h
 rw [HT.sIx_nat]; rfl
theorem Zjh {α : Type} (xs : List α) {k : Int} (h : 0 ≤ k) : cut xs none (some k) = xs.take k.toNat := by
 unfold cut
 rw [HT.sIx_none,sIx_nn h,List.drop_zero,Nat.sub_zero]
 rcases Nat.le_total k.toNat xs.length with e | e
 ·rw [Nat.min_eq_left e]
 ·rw [Nat.min_eq_right e,List.take_of_length_le (Nat.le_refl _),List.take_of_length_le e]
theorem Zit {α : Type} (xs : List α) {k : Int} (h : 0 ≤ k) : cut xs (some k) none = xs.drop k.toNat := by
 unfold cut
 rw [HT.sIx_none,sIx_nn h]
 rcases Nat.le_total k.toNat xs.length with e | e
 ·rw [Nat.min_eq_left e,List.take_of_length_le]; rw [List.length_drop]; omega
 ·rw [Nat.min_eq_right e,Nat.sub_self,List.take_zero,List.drop_of_length_le e]
theorem cut_mid {α : Type} (xs : List α) {a b : Int} (h : 0 ≤ a) (h2 : a ≤ b) : cut xs (some a) (some b) = (xs.drop a.toNat).take (b.toNat - a.toNat) := by
 unfold cut
 rw [sIx_nn h,sIx_nn (by omega)]
 rcases Nat.le_total a.toNat xs.length with e | e
 ·rw [Nat.min_eq_left e]
  rcases Nat.le_total b.toNat xs.length with e2 | e2
  ·rw [Nat.min_eq_left e2]
  ·rw [Nat.min_eq_right e2,List.take_of_length_le (by rw [List.length_drop]; omega),List.take_of_length_le (by rw [List.length_drop]; omega)]
 ·rw [Nat.min_eq_right e,List.drop_of_length_le e,List.drop_of_length_le (Nat.le_refl _)]; simp
theorem Zej {α : Type} {xs : List α} {i : Int} (h : 0 ≤ i) (h2 : i < xs.length) : atI xs i = xs[i.toNat]? := by
 unfold atI ixN
 rw [if_pos h,if_pos h2]; rfl
theorem atI_last {α : Type} {xs : List α} {a : α} : atI (xs ++ [a]) (-1) = some a := by
 unfold atI ixN
 rw [if_neg (by decide),if_pos (by simp; omega)]
 show (xs ++ [a])[((-1 : Int) + ((xs ++ [a]).length : Nat)).toNat]? = _
 have e : ((-1 : Int) + ((xs ++ [a]).length : Nat)).toNat = xs.length := by simp; omega
 rw [e]; simp
theorem ixS_ok {s : Str} {i : Int} (h : 0 ≤ i) (h2 : i < s.length) (h3 : s.length ≤ sizeLine) : Ok (ixS s i) fun z => ∃ c,(cl s)[i.toNat]? = some c ∧ z = ⟨#[c]⟩ := by
 unfold ixS
 refine Ok.gd (by unfold Zb0; exact decide_eq_true h3) ?_
 rw [Zej h (by rw [Array.length_toList]; exact h2)]
 have hl : i.toNat < (cl s).length := by rw [← Zas]; omega
 refine Ok.bde (a := (cl s)[i.toNat]) (by show (cl s)[i.toNat]? = _; simp [hl]) ?_
 exact Ok.sm ⟨_,by simp [hl],rfl⟩
theorem Zb3 : (16000000 : Nat) ≤ sizeLine := by rw [sizeLine_eq]; decide
theorem Za1 {s : Str} (h : s.length ≤ 16000000) : Zb0 s = true := decide_eq_true (Nat.le_trans h Zb3)
theorem Zdt {α : Type} {s : List α} (h : s.length < 16000000) : fits s = true := decide_eq_true (Nat.lt_of_lt_of_le h Zb3)
theorem Zfr {α : Type} {s : List α} (h : s.length ≤ 16000000) : Zk1 s = true := decide_eq_true (Nat.le_trans h Zb3)
theorem Zis {α : Type} {s t : List α} (h : s.length + t.length ≤ 16000000) : Zk2 s t = true := decide_eq_true (Nat.le_trans h Zb3)
theorem Zdg {s t : Str} (h : s.length + t.length ≤ 16000000) : Zee s t = true := decide_eq_true (Nat.le_trans h Zb3)
theorem Zgy {a b : Int} (h : -16000000 ≤ a) (h2 : a ≤ 16000000) (h3 : -16000000 ≤ b) (h4 : b ≤ 16000000) : rgOk a b = true := by
 unfold rgOk
 rw [decide_eq_true (show -(2 ^ 62) ≤ a by omega),decide_eq_true (show a < 2 ^ 62 by omega),decide_eq_true (show -(2 ^ 62) ≤ b by omega),decide_eq_true (show b < 2 ^ 62 by omega)]; rfl
theorem rgFit_ok {a b : Int} (h : -5000000 ≤ a) (h2 : a ≤ 5000000) (h3 : -5000000 ≤ b) (h4 : b ≤ 5000000) : rgFit a b = true := by
 unfold rgFit
 rw [decide_eq_true (show -(2 ^ 62) ≤ a by omega),decide_eq_true (show a < 2 ^ 62 by omega),decide_eq_true (show -(2 ^ 62) ≤ b by omega),decide_eq_true (show b < 2 ^ 62 by omega),decide_eq_true (show (b - a).toNat ≤ 16000000 by omega)]; rfl
theorem mulOk_l {a b : Int} (h : -(2 ^ 64) < a) (h2 : a < 2 ^ 64) : Zja a b = true := by
 unfold Zja; rw [decide_eq_true h,decide_eq_true h2]; rfl
theorem mulOk_r {a b : Int} (h : -(2 ^ 64) < b) (h2 : b < 2 ^ 64) : Zja a b = true := by
 unfold Zja; rw [decide_eq_true h,decide_eq_true h2]; simp
theorem modOk_ok {a : Int} (h : 0 < a) : Zjx a = true := decide_eq_true h
theorem divOk_ok {a : Int} (h : 0 < a) (h2 : a < 1073741824) : divOk a = true := by
 unfold divOk; rw [decide_eq_true h,decide_eq_true h2]; rfl
theorem repS_cl {x : Str} {n : Int} (h : 0 ≤ n) : cl (repS x n) = (List.replicate n.toNat (cl x)).flatten := by
 have fold : ∀ (k : Nat) (acc : Array Nat),((List.replicate k x.cps).foldl (· ++ ·) acc).toList = acc.toList ++ (List.replicate k x.cps.toList).flatten := by
  intro k
  induction k with
  | zero => intro acc; simp
  | succ k ih => intro acc; rw [List.replicate_succ,List.foldl_cons,ih,List.replicate_succ,List.flatten_cons,Array.toList_append,List.append_assoc]
 unfold repS Txt.mul
 by_cases h1 : n < 1
 ·rw [if_pos h1]
  have e : n.toNat = 0 := by omega
  rw [e]; rfl
 ·rw [if_neg h1]
  by_cases h2 : (n == 1 || x.length == 0) = true
  ·rw [if_pos h2]
   rcases Bool.or_eq_true_iff.mp h2 with h3 | h3
   ·have e : n = 1 := by simpa using h3
    subst e
    show cl x = _
    simp
   ·have e : x.length = 0 := by simpa using h3
    rw [Zas] at e
    have e2 : cl x = [] := List.eq_nil_of_length_eq_zero e
    rw [e2]
    symm
    rw [List.flatten_eq_nil_iff]
    intro l hl
    exact (List.mem_replicate.mp hl).2
  ·rw [if_neg h2]
   show ((List.replicate n.toNat x.cps).foldl (· ++ ·) #[]).toList = _
   rw [fold]
   simp [cl]
theorem repOk_ok {x : Str} {n : Int} (h : 0 ≤ n) (h2 : n ≤ 100) (h3 : x.length ≤ 100) : Zjp x n = true := by
 unfold Zjp
 have e : x.length * n.toNat ≤ 100000 := Nat.le_trans (Nat.mul_le_mul h3 (show n.toNat ≤ 100 by omega)) (by decide)
 rw [decide_eq_true (show -(2 ^ 62) ≤ n by omega),decide_eq_true (show n < 2 ^ 62 by omega),decide_eq_true e,decide_eq_true (show x.length ≤ 100000 by omega)]; rfl
theorem Zhz {a b i : Int} : i ∈ rng a b ↔ a ≤ i ∧ i < b := by
 unfold rng
 rw [List.mem_map]
 constructor
 ·rintro ⟨j,hj,rfl⟩
  rw [List.mem_range] at hj
  omega
 ·intro ⟨h1,h2⟩
  exact ⟨(i - a).toNat,by rw [List.mem_range]; omega,by omega⟩
theorem Zci (a b : Int) : (rng a b).length = (b - a).toNat := by unfold rng; simp
theorem rng_at {a b : Int} {pre post : List Int} {x : Int} (h : rng a b = pre ++ x :: post) : x = a + pre.length ∧ pre = rng a x ∧ a ≤ x ∧ x < b := by
 have hx : x ∈ rng a b := by rw [h]; simp
 rw [Zhz] at hx
 have hg : (rng a b)[pre.length]? = some x := by rw [h]; simp
 have hl : pre.length < (b - a).toNat := by
  have := congrArg List.length h
  rw [Zci] at this
  simp at this
  omega
 have hx2 : x = a + pre.length := by
  unfold rng at hg
  rw [List.getElem?_map,List.getElem?_range hl] at hg
  exact (Option.some.inj hg).symm
 refine ⟨hx2,?_,hx⟩
 have e : pre = (rng a b).take pre.length := by rw [h]; simp
 rw [e]
 unfold rng
 rw [← List.map_take,List.take_range]
 congr 2
 rw [hx2]; omega
theorem rng_snoc {a b : Int} (h : a ≤ b) : rng a (b + 1) = rng a b ++ [b] := by
 unfold rng
 have e : (b + 1 - a).toNat = (b - a).toNat + 1 := by omega
 rw [e,List.range_succ,List.map_append]
 congr 1
 show [a + ((b - a).toNat : Int)] = [b]
 congr 1
 omega
def okS (s : Str) : Prop := PyData.strOk s = true
theorem canAll {α : Type} {A : R α} (D : Dat A) : ∀ {xs : List α},(∀ x ∈ xs,(D.d x).canLay0 = true) → PyData.canLayAll0 (xs.map D.d) = true
 | [],_ => rfl
 | x :: xs,h => by
  show ((D.d x).canLay0 && PyData.canLayAll0 (xs.map D.d)) = true
  rw [h x List.mem_cons_self,canAll D fun y hy => h y (List.mem_cons_of_mem _ hy)]; rfl
theorem depAll {α : Type} {A : R α} (D : Dat A) {n : Nat} : ∀ {xs : List α},(∀ x ∈ xs,(D.d x).depth ≤ n) → PyData.depthAll (xs.map D.d) ≤ n
 | [],_ => Nat.zero_le _
 | x :: xs,h => by
  show max (D.d x).depth (PyData.depthAll (xs.map D.d)) ≤ n
  exact Nat.max_le.mpr ⟨h x List.mem_cons_self,depAll D fun y hy => h y (List.mem_cons_of_mem _ hy)⟩
theorem shp_of {α : Type} {A : R α} {D : Dat A} {a : α} (h : (D.d a).canLay0 = true) (h2 : (D.d a).depth ≤ 64) : shp D a = true := by
 show ((D.d a).canLay0 && decide ((D.d a).depth ≤ 64)) = true
 rw [h,decide_eq_true h2]; rfl
theorem shp_lS {xs : List Str} (h : ∀ x ∈ xs,okS x) : shp (dL dS) xs = true := shp_of (canAll dS h) (Nat.succ_le_of_lt (Nat.lt_of_le_of_lt (depAll dS (n := 0) fun _ _ => Nat.le_refl _) (by decide)))
theorem shp_lI (xs : List Int) : shp (dL dI) xs = true := shp_of (canAll dI fun _ _ => rfl) (Nat.succ_le_of_lt (Nat.lt_of_le_of_lt (depAll dI (n := 0) fun _ _ => Nat.le_refl _) (by decide)))
theorem loop_pick {α : Type} {f : α → List α → Option (List α)} {xs : List α} (p : α → Bool) (hs : ∀ pre x post,xs = pre ++ x :: post → f x (pre.filter p) = some (if p x = true then pre.filter p ++ [x] else pre.filter p)) : Zbt f xs [] = some (xs.filter p) := by
 refine Ok.eq (Ok.loop (fun pre s => s = pre.filter p) rfl fun pre x post s e h => ?_)
 subst h
 refine ⟨_,hs pre x post e,?_⟩
 rw [List.filter_append,List.filter_cons]
 cases p x <;> simp
class ShpD {α : Type} {A : R α} (D : Dat A) where
 ok : α → Prop
 n : Nat
 can : ∀ a,ok a → (D.d a).canLay0 = true
 dep : ∀ a,(D.d a).depth ≤ n
class ShpR {α : Type} {B : RR α} (E : DatR B) where
 ok : α → Prop
 n : Nat
 can : ∀ a,ok a → PyData.canLayAll0 (E.d a) = true
 dep : ∀ a,PyData.depthAll (E.d a) ≤ n
theorem shpD {α : Type} {A : R α} {D : Dat A} [i : ShpD D] {a : α} (h : i.ok a) (hn : i.n ≤ 64 := by decide) : shp D a = true := shp_of (i.can a h) (Nat.le_trans (i.dep a) hn)
instance sI : ShpD dI := ⟨fun _ => True,0,fun _ _ => rfl,fun _ => Nat.le_refl _⟩
instance sB : ShpD dB := ⟨fun _ => True,0,fun _ _ => rfl,fun _ => Nat.le_refl _⟩
instance sS : ShpD dS := ⟨okS,0,fun _ h => h,fun _ => Nat.le_refl _⟩
instance sL {α : Type} {A : R α} {D : Dat A} [i : ShpD D] : ShpD (dL D) := ⟨fun xs => ∀ x ∈ xs,i.ok x,i.n + 1,fun xs h => canAll D fun x hx => i.can x (h x hx),fun xs => by
 show PyData.depthAll (xs.map D.d) + 1 ≤ _
 have := depAll D (n := i.n) (xs := xs) fun x _ => i.dep x
 omega⟩
instance sT {α : Type} {A : R α} {D : Dat A} [i : ShpD D] : ShpD (dT D) := ⟨fun xs => ∀ x ∈ xs,i.ok x,i.n + 1,fun xs h => canAll D fun x hx => i.can x (h x hx),fun xs => by
 show PyData.depthAll (xs.map D.d) + 1 ≤ _
 have := depAll D (n := i.n) (xs := xs) fun x _ => i.dep x
 omega⟩
instance s2 {α β : Type} {A : R α} {B : R β} {D : Dat A} {E : Dat B} [i : ShpD D] [j : ShpD E] : ShpD (d2 D E) := ⟨fun a => i.ok a.1 ∧ j.ok a.2,max i.n j.n + 1,fun a h => by
 show ((D.d a.1).canLay0 && ((E.d a.2).canLay0 && true)) = true
 rw [i.can _ h.1,j.can _ h.2]; rfl,fun a => by
 show max (D.d a.1).depth (max (E.d a.2).depth 0) + 1 ≤ _
 have h1 := i.dep a.1
 have h2 := j.dep a.2
 omega⟩
def optOk {α : Type} (P : α → Prop) : Option α → Prop
 | none => True
 | some a => P a
instance sO {α : Type} {A : R α} {D : Dat A} [NotNone D] [i : ShpD D] : ShpD (dO D) := ⟨optOk i.ok,i.n,fun a h => by
 cases a with
 | none => rfl
 | some a => exact i.can a h,fun a => by
 cases a with
 | none => exact Nat.zero_le _
 | some a => exact i.dep a⟩
instance sr1 {α : Type} {A : R α} {D : Dat A} [i : ShpD D] : ShpR (e1 D) := ⟨i.ok,i.n,fun a h => by
 show ((D.d a).canLay0 && true) = true
 rw [i.can _ h]; rfl,fun a => by
 show max (D.d a).depth 0 ≤ _
 have := i.dep a
 omega⟩
instance src {α β : Type} {A : R α} {B : RR β} {D : Dat A} {E : DatR B} [i : ShpD D] [j : ShpR E] : ShpR (ec D E) := ⟨fun a => i.ok a.1 ∧ j.ok a.2,max i.n j.n,fun a h => by
 show ((D.d a.1).canLay0 && PyData.canLayAll0 (E.d a.2)) = true
 rw [i.can _ h.1,j.can _ h.2]; rfl,fun a => by
 show max (D.d a.1).depth (PyData.depthAll (E.d a.2)) ≤ _
 have h1 := i.dep a.1
 have h2 := j.dep a.2
 omega⟩
instance sLr {α : Type} {B : RR α} {E : DatR B} [i : ShpR E] : ShpD (dLr E) := ⟨i.ok,i.n + 1,fun a h => i.can a h,fun a => Nat.succ_le_succ (i.dep a)⟩
instance sTr {α : Type} {B : RR α} {E : DatR B} [i : ShpR E] : ShpD (dTr E) := ⟨i.ok,i.n + 1,fun a h => i.can a h,fun a => Nat.succ_le_succ (i.dep a)⟩
end Gl
namespace Law
open PySem PySem.Spec PyProof.Rows L2 Gl
def top (i : Nat) : Stmt := PySem.Challenge.pw_gluedlines_k06_pattern_texts_read.main.body.getD i (.Pass ⟨0,0,0,0⟩)
abbrev Zez : Stmt := top 35
abbrev Zex : Stmt := top 36
abbrev Zb4 : Stmt := top 37
abbrev Zew : Stmt := top 38
abbrev Zey : Stmt := top 39
abbrev Zcl : Stmt := inClass (top 26) 4
abbrev Zco : Stmt := inClass (top 27) 1
abbrev Zbw : Stmt := inClass (top 28) 1
abbrev Zd7 : Stmt := top 48
abbrev Zd5 : Stmt := top 31
abbrev Zdm : Stmt := inClass (top 26) 6
abbrev Zcn : Stmt := inClass (top 28) 2
abbrev Zdo : Stmt := inClass (top 27) 2
abbrev Zb6 : Stmt := inClass (top 27) 0
abbrev Zbk : Stmt := inClass (top 25) 0
abbrev Zbl : Stmt := inClass (top 28) 0
abbrev Zbu : Stmt := inClass (top 25) 1
abbrev Zev : Stmt := top 30
abbrev Zf1 : Stmt := top 4
abbrev Zdj : Stmt := top 24
abbrev Zb5 : Stmt := inClass (top 26) 3
abbrev Zdi : Stmt := top 32
abbrev Zck : Stmt := top 33
abbrev Zbv : Stmt := inClass (top 25) 3
abbrev Zcy : Stmt := top 45
abbrev Zbr : Stmt := inClass (top 25) 2
abbrev Zbs : Stmt := inClass (top 25) 2
abbrev Zbd : Stmt := inClass (top 25) 2
abbrev Zdl : Stmt := inClass (top 26) 7
abbrev Zcm : Stmt := inClass (top 28) 3
abbrev Zdn : Stmt := inClass (top 27) 3
abbrev Ze3 : Stmt := top 10
abbrev Zha : Stmt := top 12
abbrev Zf0 : Stmt := top 13
abbrev Zdk : Stmt := inClass (top 26) 5
abbrev Ziz : Stmt := top 11
abbrev Zi0 : Stmt := top 14
abbrev Zf2 : Stmt := top 15
abbrev Zcx : Stmt := inClass (top 25) 2
abbrev Zd9 : Stmt := top 47
abbrev Ze0 : Stmt := top 44
abbrev Zd8 : Stmt := top 49
abbrev Ze1 : Stmt := top 40
abbrev Zd6 : Stmt := top 41
abbrev Ze2 : Stmt := top 42
abbrev Zdz : Stmt := top 43
abbrev Zbq : Stmt := top 50
abbrev Zc8 : Stmt := top 46
abbrev s_law : Stmt := top 51
def fn : List He.DefD := [⟨("_law_pool",none),"_law_pool","_law_pool",defArgs Zez,defBody Zez,defScope Zez,[],[]⟩,
 ⟨("_law_take",none),"_law_take","_law_take",defArgs Zex,defBody Zex,defScope Zex,[],[]⟩,
 ⟨("_law_all_signs",none),"_law_all_signs","_law_all_signs",defArgs Zb4,defBody Zb4,defScope Zb4,[],[]⟩,
 ⟨("_law_text",none),"_law_text","_law_text",defArgs Zew,defBody Zew,defScope Zew,[],[]⟩,
 ⟨("_law_rich",none),"_law_rich","_law_rich",defArgs Zey,defBody Zey,defScope Zey,[],[]⟩,
 ⟨("Form",some "__str__"),"__str__","Form.__str__",defArgs Zcl,defBody Zcl,defScope Zcl,[],[]⟩,
 ⟨("Both",some "__str__"),"__str__","Both.__str__",defArgs Zco,defBody Zco,defScope Zco,[],[]⟩,
 ⟨("Either",some "__str__"),"__str__","Either.__str__",defArgs Zbw,defBody Zbw,defScope Zbw,[],[]⟩,
 ⟨("_law_shown",none),"_law_shown","_law_shown",defArgs Zd7,defBody Zd7,defScope Zd7,[],[]⟩,
 ⟨("middle_of",none),"middle_of","middle_of",defArgs Zd5,defBody Zd5,defScope Zd5,[],[]⟩,
 ⟨("Form",some "forms"),"forms","Form.forms",defArgs Zdm,defBody Zdm,defScope Zdm,[],[]⟩,
 ⟨("Either",some "forms"),"forms","Either.forms",defArgs Zcn,defBody Zcn,defScope Zcn,[],[]⟩,
 ⟨("Both",some "forms"),"forms","Both.forms",defArgs Zdo,defBody Zdo,defScope Zdo,[],[]⟩,
 ⟨("Both",some "__init__"),"__init__","Both.__init__",defArgs Zb6,defBody Zb6,defScope Zb6,[],[]⟩,
 ⟨("Pattern",some "__and__"),"__and__","Pattern.__and__",defArgs Zbk,defBody Zbk,defScope Zbk,[],[]⟩,
 ⟨("Either",some "__init__"),"__init__","Either.__init__",defArgs Zbl,defBody Zbl,defScope Zbl,[],[]⟩,
 ⟨("Pattern",some "__or__"),"__or__","Pattern.__or__",defArgs Zbu,defBody Zbu,defScope Zbu,[],[]⟩,
 ⟨("parts_of",none),"parts_of","parts_of",defArgs Zev,defBody Zev,defScope Zev,[],[]⟩,
 ⟨("is_line",none),"is_line","is_line",defArgs Zf1,defBody Zf1,defScope Zf1,[],[]⟩,
 ⟨("is_allowed",none),"is_allowed","is_allowed",defArgs Zdj,defBody Zdj,defScope Zdj,[],[]⟩,
 ⟨("Form",some "__init__"),"__init__","Form.__init__",defArgs Zb5,defBody Zb5,defScope Zb5,[],[]⟩,
 ⟨("pattern_of",none),"pattern_of","pattern_of",defArgs Zdi,defBody Zdi,defScope Zdi,[],[]⟩,
 ⟨("read_pattern",none),"read_pattern","read_pattern",defArgs Zck,defBody Zck,defScope Zck,[],[]⟩,
 ⟨("Pattern",some "__eq__"),"__eq__","Pattern.__eq__",defArgs Zbv,defBody Zbv,defScope Zbv,[],[]⟩,
 ⟨("_law_spoiled",none),"_law_spoiled","_law_spoiled",defArgs Zcy,defBody Zcy,defScope Zcy,[],[]⟩,
 ⟨("Form",some "__contains__"),"__contains__","Pattern.__contains__",defArgs Zbr,defBody Zbr,defScope Zbr,[],[]⟩,
 ⟨("Both",some "__contains__"),"__contains__","Pattern.__contains__",defArgs Zbs,defBody Zbs,defScope Zbs,[],[]⟩,
 ⟨("Either",some "__contains__"),"__contains__","Pattern.__contains__",defArgs Zbd,defBody Zbd,defScope Zbd,[],[]⟩,
 ⟨("Form",some "holds"),"holds","Form.holds",defArgs Zdl,defBody Zdl,defScope Zdl,[],[]⟩,
 ⟨("Either",some "holds"),"holds","Either.holds",defArgs Zcm,defBody Zcm,defScope Zcm,[],[]⟩,
 ⟨("Both",some "holds"),"holds","Both.holds",defArgs Zdn,defBody Zdn,defScope Zdn,[],[]⟩,
 ⟨("cells_of",none),"cells_of","cells_of",defArgs Ze3,defBody Ze3,defScope Ze3,[],[]⟩,
 ⟨("closed",none),"closed","closed",defArgs Zha,defBody Zha,defScope Zha,[],[]⟩,
 ⟨("started",none),"started","started",defArgs Zf0,defBody Zf0,defScope Zf0,[],[]⟩,
 ⟨("Form",some "parts"),"parts","Form.parts",defArgs Zdk,defBody Zdk,defScope Zdk,[],[]⟩,
 ⟨("takes",none),"takes","takes",defArgs Ziz,defBody Ziz,defScope Ziz,[],[]⟩,
 ⟨("moved",none),"moved","moved",defArgs Zi0,defBody Zi0,defScope Zi0,[],[]⟩,
 ⟨("is_done",none),"is_done","is_done",defArgs Zf2,defBody Zf2,defScope Zf2,[],[]⟩,
 ⟨("_law_built",none),"_law_built","_law_built",defArgs Zd9,defBody Zd9,defScope Zd9,[],[]⟩,
 ⟨("_law_line",none),"_law_line","_law_line",defArgs Ze0,defBody Ze0,defScope Ze0,[],[]⟩,
 ⟨("_law_holds",none),"_law_holds","_law_holds",defArgs Zd8,defBody Zd8,defScope Zd8,[],[]⟩,
 ⟨("_law_form",none),"_law_form","_law_form",defArgs Ze1,defBody Ze1,defScope Ze1,[],[]⟩,
 ⟨("_law_takes",none),"_law_takes","_law_takes",defArgs Zd6,defBody Zd6,defScope Zd6,[],[]⟩,
 ⟨("_law_ends",none),"_law_ends","_law_ends",defArgs Ze2,defBody Ze2,defScope Ze2,[],[]⟩,
 ⟨("_law_fits",none),"_law_fits","_law_fits",defArgs Zdz,defBody Zdz,defScope Zdz,[],[]⟩,
 ⟨("_law_right",none),"_law_right","_law_right",defArgs Zbq,defBody Zbq,defScope Zbq,[],[]⟩,
 ⟨("_law_shape",none),"_law_shape","_law_shape",defArgs Zc8,defBody Zc8,defScope Zc8,[],[]⟩,
 ⟨("law",none),"law","law",defArgs s_law,defBody s_law,defScope s_law,[],[]⟩]
def fa : List He.Fa := [.glo "_law_pool",.glo "_law_take",.glo "_law_all_signs",.glo "_law_text",.glo "_law_rich",.glo "_law_shown",.glo "middle_of",.glo "parts_of",.glo "is_line",.glo "is_allowed",.glo "pattern_of",.glo "read_pattern",.glo "_law_spoiled",.glo "cells_of",.glo "closed",.glo "started",.glo "takes",.glo "moved",.glo "is_done",.glo "_law_built",.glo "_law_line",.glo "_law_holds",.glo "_law_form",.glo "_law_takes",.glo "_law_ends",.glo "_law_fits",.glo "_law_right",.glo "_law_shape",.glo "law",.glo "Form",.cls "Form",.noat "Form" "pieces",.meth "Form" "__str__",.meth "Form" "forms",.mkr "Form",.meth "Form" "__contains__",.meth "Form" "holds",.meth "Form" "parts",.glo "Both",.cls "Both",.noat "Both" "left",.noat "Both" "right",.meth "Both" "__str__",.meth "Both" "forms",.mkr "Both",.meth "Both" "__contains__",.meth "Both" "holds",.glo "Either",.cls "Either",.noat "Either" "left",.noat "Either" "right",.meth "Either" "__str__",.meth "Either" "forms",.mkr "Either",.meth "Either" "__contains__",.meth "Either" "holds",.glo "Pattern",.cls "Pattern",.meth "Pattern" "__and__",.meth "Pattern" "__or__",.meth "Pattern" "__eq__",.glo "NoForm",.free "enumerate",.free "int",.free "isinstance",.free "len",.free "list",.free "max",.free "min",.free "range",.free "str",.free "tuple",.str "ANY_CELL" "<any>",.str "DIGITS_CELL" "<digits>",.str "DIGIT_SIGNS" "0123456789",.glo "FREE_CELLS",.str "LETTER_SIGNS" "ABCDEFGHIJKLMNOPQRSTUVWXYZabcdefghijklmnopqrstuvwxyz",.int "MOST_FORMS" 3,.int "MOST_PARTS" 4,.int "MOST_SIGNS" 4,.str "SIGNS" " #-.0123456789:>ABCDEFGHIJKLMNOPQRSTUVWXYZabcdefghijklmnopqrstuvwxyz",.str "WORD_CELL" "<word>"]
abbrev FnU : Type := Option (Str × Str × Arguments × FuncBody × Scope × Addr × Addr)
def fwDrop (z : Str × Str × Arguments × FuncBody × Scope × Addr × List (Str × Addr) × Addr) : Str × Str × Arguments × FuncBody × Scope × Addr × Addr := (z.1,z.2.1,z.2.2.1,z.2.2.2.1,z.2.2.2.2.1,z.2.2.2.2.2.1,z.2.2.2.2.2.2.2)
theorem fw_mk {L : He.FnW} {n q : Str} {a : Arguments} {b : FuncBody} {s : Scope} {m m' : Addr} {c : List (Str × Addr)} (h : L.map fwDrop = some (n,q,a,b,s,m,m')) (k : decide (L.map (fun z => z.2.2.2.2.2.2.1) = some c) = true) : L = some (n,q,a,b,s,m,c,m') := by
 have k := of_decide_eq_true k
 cases L with
 | none => cases h
 | some z =>
  obtain ⟨z1,z2,z3,z4,z5,z6,z7,z8⟩ := z
  have k : z7 = c := Option.some.inj k
  have h : (z1,z2,z3,z4,z5,z6,z8) = (n,q,a,b,s,m,m') := Option.some.inj h
  simp only [Prod.mk.injEq] at h
  obtain ⟨h1,h2,h3,h4,h5,h6,h7⟩ := h
  rw [k,h1,h2,h3,h4,h5,h6,h7]
def tabs (P : Program) (K : PySem.W.Frag) : Bool := (patB K && (He.tupB K "FREE_CELLS" [.str "<digits>",.str "<word>",.str "<any>"] && (patEB K && (patNB K && true))))
abbrev RR : PySem.W.OpenRow := PySem.W.OpenLaw.row PySem.Challenge.rw_gluedlines_k06_pattern_texts_read
def loose0 : List PySem.Str := [("SIGNS" : PySem.Str),("DIGIT_SIGNS" : PySem.Str),("LETTER_SIGNS" : PySem.Str),("is_line" : PySem.Str),("DIGITS_CELL" : PySem.Str),("WORD_CELL" : PySem.Str),("ANY_CELL" : PySem.Str),("FREE_CELLS" : PySem.Str),("cells_of" : PySem.Str),("takes" : PySem.Str),("closed" : PySem.Str),("started" : PySem.Str),("moved" : PySem.Str),("is_done" : PySem.Str),("GlueError" : PySem.Str),("NoForm" : PySem.Str),("NoText" : PySem.Str),("MOST_FORMS" : PySem.Str),("MOST_PARTS" : PySem.Str),("MOST_SIGNS" : PySem.Str),("is_allowed" : PySem.Str),("Pattern" : PySem.Str),("Form" : PySem.Str),("Both" : PySem.Str),("Either" : PySem.Str),("parts_of" : PySem.Str),("middle_of" : PySem.Str),("pattern_of" : PySem.Str),("read_pattern" : PySem.Str),("_law_pool" : PySem.Str),("_law_take" : PySem.Str),("_law_all_signs" : PySem.Str),("_law_text" : PySem.Str),("_law_rich" : PySem.Str),("_law_form" : PySem.Str),("_law_takes" : PySem.Str),("_law_ends" : PySem.Str),("_law_fits" : PySem.Str),("_law_line" : PySem.Str),("_law_spoiled" : PySem.Str)]
def loose1 : List PySem.Str := [("_law_shape" : PySem.Str),("_law_built" : PySem.Str),("_law_shown" : PySem.Str),("_law_holds" : PySem.Str),("_law_right" : PySem.Str)]
def loose : List PySem.Str := loose0 ++ loose1
def refsN (o : Obj) : List Addr := match o.data with
 | .seq its _ => its.toList.flatMap He.refV
 | .dict es _ => es.toList.flatMap fun e => He.refV e.val
 | .func fd => He.refV fd.code ++ He.refV fd.defaults ++ He.refV fd.kwdefaults ++ fd.closure.map (·.2)
 | .cls cd => [cd.ns]
 | .fields vs => vs.toList.flatMap He.refV
 | .cell (some v) => He.refV v
 | _ => []
def levG (g : Addr → Option Obj) : Nat → List Addr → List Addr
 | 0,as => as
 | n + 1,as => as ++ levG g n (as.flatMap fun a => match g a with
  | some o => refsN o
  | none => [])
def obK (K : PySem.W.Frag) : Bool × List FnU × He.AlD := (tabs RR.prog K,[],He.obsD fa fn K)
def obG (g : Addr → Option Obj) : Bool × List FnU × He.AlD := obK (He.frG g (levG g 5 [mainGlobals]))
def hk : PySem.W.Hook where
 α := Bool × List FnU × He.AlD
 obs := fun s => obG s.heap.get?
 val := fun _ => (true,[],He.valD fn)
 says := fun _ h => ∃ K : PySem.W.Frag,K.In h ∧ obK K = (true,[],He.valD fn)
 of := fun _ _ e => ⟨_,He.frG_in,e⟩
 keeps := fun _ _ _ ⟨K,hK,c⟩ k => ⟨K,PySem.W.Frag.In.keeps hK k,c⟩
def ob (s : PySem.W.SharedT) : Bool × List FnU × He.AlD := obG (HandSHeadRun.getT s)
theorem ob_eq (s : PySem.W.SharedT) : ob s = hk.obs s.abs := by
 have e : HandSHeadRun.getT s = s.abs.heap.get? := funext (HandSHeadRun.getT_eq s)
 show obG (HandSHeadRun.getT s) = obG s.abs.heap.get?
 rw [e]
theorem run_join {α β γ δ : Type} {x : Option δ} {A : δ → α} {B : δ → β} {C : δ → γ} {a : α} {b : β} {c : γ} (h1 : x.map A = some a) (h2 : x.map B = some b) (h3 : x.map C = some c) : x.map (fun s => (A s,B s,C s)) = some (a,b,c) := by
 cases x with
 | none => cases h1
 | some s =>
  have e1 : A s = a := Option.some.inj h1
  have e2 : B s = b := Option.some.inj h2
  have e3 : C s = c := Option.some.inj h3
  subst e1 e2 e3
  rfl
theorem runA (w : World) (os : OsState) : (HandSHeadRun.endF (HandSHeadRun.stepQ (HandSHeadRun.denQ HandSHeadRun.tabQ) RR.prog w) 60000 RR.prog w os).map (fun s => HandSHeadRun.looksF RR.prog (PySem.W.boot_heap w.params) s.abs) = some true := by kernel_rfl
theorem runB (w : World) (os : OsState) : (HandSHeadRun.endF (HandSHeadRun.stepQ (HandSHeadRun.denQ HandSHeadRun.tabQ) RR.prog w) 60000 RR.prog w os).map (fun s => HandSHeadRun.seenQ (PySem.W.view RR.prog [51]) loose (PySem.importedModules RR.prog.main.body) (fun s => PySem.W.xlAt (PySem.W.view RR.prog [51]) [] s && PySem.W.recOk RR.toRowW.records s) s.abs) = some (PySem.W.openGood (PySem.W.view RR.prog [51]) loose) := by kernel_rfl
theorem runC (w : World) (os : OsState) : (HandSHeadRun.endF (HandSHeadRun.stepQ (HandSHeadRun.denQ HandSHeadRun.tabQ) RR.prog w) 60000 RR.prog w os).map ob = some (hk.val w) := by kernel_rfl
theorem run (w : World) : HandSHeadRun.RunEq RR (PySem.W.view RR.prog [51]) hk ob 60000 loose w := fun os => run_join (runA w os) (runB w os) (runC w os)
def qBoth : R (Pat × Pat) := ⟨fun K F v a => ∃ (p dx : Addr) (u0 u1 : V),v = .ref p ∧ F p = some (.ins (He.ga K "Both") dx [("left",u0),("right",u1)]) ∧ qPat.r K F u0 a.1 ∧ qPat.r K F u1 a.2,fun e ⟨p,dx,u0,u1,h1,h2,k0,k1⟩ => ⟨p,dx,u0,u1,h1,e _ _ h2,qPat.mono e k0,qPat.mono e k1⟩⟩
def qEither : R (Pat × Pat) := ⟨fun K F v a => ∃ (p dx : Addr) (u0 u1 : V),v = .ref p ∧ F p = some (.ins (He.ga K "Either") dx [("left",u0),("right",u1)]) ∧ qPat.r K F u0 a.1 ∧ qPat.r K F u1 a.2,fun e ⟨p,dx,u0,u1,h1,h2,k0,k1⟩ => ⟨p,dx,u0,u1,h1,e _ _ h2,qPat.mono e k0,qPat.mono e k1⟩⟩
def Zfa (a_script : (List Int)) (a_k : Int) : Option (Int × Int) :=
 (((gd (shp (dL dI) a_script) <| gd (shp (dL dI) ([] : List Int)) <| if (!decide (a_script = ([] : List Int))) = true then (gd (Zjx ((a_script).length : Int)) <| (atI a_script (a_k % ((a_script).length : Int))).bind fun t14 => some (t14)) else (some (0)))).bind fun (t1 : Int) => gd (Zjx 2147483629) <| gd (Zja 104729 a_k) <| gd (Zja (((t1 % 2147483629) + (104729 * a_k)) + 11) 48271) <| gd (Zjx 2147483647) <| gd (powOk 10 18) <| gd (Zja t1 (b2I ((decide ((10 ^ (18 : Int).toNat) ≤ t1))))) <| some ((t1 * (b2I ((decide ((10 ^ (18 : Int).toNat) ≤ t1))))),(((((t1 % 2147483629) + (104729 * a_k)) + 11) * 48271) % 2147483647)))
def Zap (a_pool_here : (Int × Int)) (a_many : Int) : Option (Int × (Int × Int)) :=
 (if (decide (0 < (a_pool_here).1)) = true then (gd (Zjx a_many) <| gd (divOk a_many) <| some (((a_pool_here).1 % a_many),(((a_pool_here).1 / a_many),(a_pool_here).2))) else (gd (Zja (a_pool_here).2 48271) <| gd (Zjx 2147483647) <| gd (Zja (((a_pool_here).1,((((a_pool_here).2 * 48271) + 11) % 2147483647))).2 (((a_pool_here).1,((((a_pool_here).2 * 48271) + 11) % 2147483647))).2) <| gd (Zjx 2147483629) <| gd (divOk 64) <| gd (Zjx a_many) <| some ((((((((a_pool_here).1,((((a_pool_here).2 * 48271) + 11) % 2147483647))).2 * (((a_pool_here).1,((((a_pool_here).2 * 48271) + 11) % 2147483647))).2) % 2147483629) / 64) % a_many),((a_pool_here).1,((((a_pool_here).2 * 48271) + 11) % 2147483647)))))
def Zbm  : Option Str :=
 (some (" #-.0123456789:>ABCDEFGHIJKLMNOPQRSTUVWXYZabcdefghijklmnopqrstuvwxyz" : Str))
def Zfi (t1 : (Int × (Int × Int))) (x28 : Int) (s30 : ((Int × Int) × Str)) : Option ((Int × Int) × Str) :=
 (if (decide (t1.1 = 0)) = true then ((Zbm).bind fun t43 => (Zap (s30.1) (68)).bind fun t51 => (ixS t43 t51.1).bind fun t61 => gd (Zee s30.2 t61) <| some (t51.2,(s30.2 ++ t61))) else ((Zap (s30.1) (4)).bind fun t64 => (ixS ("a1-b" : Str) t64.1).bind fun t74 => gd (Zee s30.2 t74) <| some (t64.2,(s30.2 ++ t74))))
def Zd1 (a_pool_here : (Int × Int)) : Option (Str × (Int × Int)) :=
 ((Zap (a_pool_here) (3)).bind fun t1 => (Zap (t1.2) (4)).bind fun t11 => gd (rgOk 0 (1 + t11.1)) <| (Zbt (Zfi t1) (rng 0 (1 + t11.1)) (t11.2,("" : Str))).bind fun t22 => some (t22.2,t22.1))
def Zfj  (x28 : Int) (s30 : ((Int × Int) × (List Str))) : Option ((Int × Int) × (List Str)) :=
 ((Zap (s30.1) (6)).bind fun t47 => gd (shp (dL dS) s30.2) <| gd (shp (dL dS) ([] : List Str)) <| (if (!decide (s30.2 = ([] : List Str))) = true then ((atI s30.2 (-1)).bind fun t81 => some ((!decide (t81 ∈ [("<any>" : Str),("<digits>" : Str),("<word>" : Str)])))) else some (false)).bind fun t75 => if ((decide (t47.1 = 0)) && (!decide (("<any>" : Str) ∈ s30.2))) = true then (gd (fits s30.2) <| some (t47.2,(s30.2 ++ [("<any>" : Str)]))) else (if (decide (t47.1 = 1)) = true then (gd (fits s30.2) <| some (t47.2,(s30.2 ++ [("<digits>" : Str)]))) else (if ((decide (t47.1 = 2)) || t75) = true then (gd (fits s30.2) <| some (t47.2,(s30.2 ++ [("<word>" : Str)]))) else ((Zd1 (t47.2)).bind fun t118 => gd (fits s30.2) <| some (t118.2,(s30.2 ++ [t118.1]))))))
def Ze9 (a_pool_here : (Int × Int)) : Option ((List Str) × (Int × Int)) :=
 ((Zap (a_pool_here) (4)).bind fun t10 => gd (rgOk 0 (1 + t10.1)) <| (Zbt Zfj (rng 0 (1 + t10.1)) (t10.2,([] : List Str))).bind fun t21 => some (t21.2,t21.1))
def Zgx (a_self : (List Str)) : Option Str :=
 (gd (Zj6 ("" : Str) a_self) <| some (Txt.join ("" : Str) a_self))
def Zcr : Nat → Shp → (List (List Str)) → Option Str
 | 0,_,_ => none
 | n + 1,a_shape_here,a_drawn => (if (decide ((Shp.len a_shape_here) = 1)) = true then ((Shp.num a_shape_here).bind fun t2 => (atI a_drawn t2).bind fun t4 => gd (Zj6 ("" : Str) t4) <| some (Txt.join ("" : Str) t4)) else ((Shp.lft a_shape_here).bind fun t9 => (Zcr n (t9) (a_drawn)).bind fun t13 => gd (Zee ("(" : Str) t13) <| gd (Zee (("(" : Str) ++ t13) (" " : Str)) <| (Shp.op a_shape_here).bind fun t23 => gd (Zee ((("(" : Str) ++ t13) ++ (" " : Str)) t23) <| gd (Zee (((("(" : Str) ++ t13) ++ (" " : Str)) ++ t23) (" " : Str)) <| (Shp.rgt a_shape_here).bind fun t27 => (Zcr n (t27) (a_drawn)).bind fun t31 => gd (Zee ((((("(" : Str) ++ t13) ++ (" " : Str)) ++ t23) ++ (" " : Str)) t31) <| gd (Zee (((((("(" : Str) ++ t13) ++ (" " : Str)) ++ t23) ++ (" " : Str)) ++ t31) (")" : Str)) <| some ((((((("(" : Str) ++ t13) ++ (" " : Str)) ++ t23) ++ (" " : Str)) ++ t31) ++ (")" : Str))))
def Zau  (x15 : (Int × Str)) (s17 : ((List Int) × Int)) : Option ((List Int) × Int) :=
 (if (decide (x15.2 = ("(" : Str))) = true then (some (s17.1,(s17.2 + 1))) else (if (decide (x15.2 = (")" : Str))) = true then (some (s17.1,(s17.2 - 1))) else (if ((inS x15.2 ("&|" : Str)) && (decide (s17.2 = 0))) = true then (gd (fits s17.1) <| some ((s17.1 ++ [x15.1]),s17.2)) else (some (s17.1,s17.2)))))
def Zea (a_text : Str) : Option (Option Int) :=
 ((Zbt Zau (enumI (sgns a_text)) (([] : List Int),0)).bind fun t9 => (if (decide (((t9.1).length : Int) = 1)) = true then ((atI t9.1 0).bind fun t69 => some ((some t69))) else (some (none))).bind fun t62 => some t62)
def Zib (a_self : (List Str)) : Option (List (List Str)) :=
 (some [a_self])
def Zbn (a_one : Pat) (a_other : Pat) : Option (Pat × Pat) :=
 ((Zcq (a_one)).bind fun t1 => (Zcq (a_other)).bind fun t9 => if (decide ((3) < (((t1).length : Int) + ((t9).length : Int)))) = true then (none) else (some (a_one,a_other)))
def Zaz (a_self : Pat) (a_other : Pat) : Option Pat :=
 ((Zbn (a_self) (a_other)).bind fun t1 => some (Pat.both (t1).1 (t1).2))
def Za8 (a_one : Pat) (a_other : Pat) : Option (Pat × Pat) :=
 ((Zcq (a_one)).bind fun t1 => (Zcq (a_other)).bind fun t9 => if (decide ((3) < (((t1).length : Int) + ((t9).length : Int)))) = true then (none) else (some (a_one,a_other)))
def Za2 (a_self : Pat) (a_other : Pat) : Option Pat :=
 ((Za8 (a_self) (a_other)).bind fun t1 => some (Pat.either (t1).1 (t1).2))
def Zbh (a_text : Str)  (s14 : ((List Str) × Int)) : Option (Bool × ((List Str) × Int)) :=
 (gd (Zb0 a_text) <| some ((decide (s14.2 < ((a_text).length : Int))),(s14.1,s14.2)))
def Zce (a_text : Str) (s33 : ((List Str) × Int)) (x58 : Str) (s60 : Str) : Option Str :=
 (if (Txt.startswith3 a_text x58 s33.2) = true then (some (x58)) else (some (s60)))
def Zaq (a_text : Str) (t53 : Str)  (s84 : Int) : Option (Bool × Int) :=
 ((if (decide (t53 = ("" : Str))) = true then (gd (Zb0 a_text) <| (if (decide (s84 < ((a_text).length : Int))) = true then ((ixS a_text s84).bind fun t128 => some ((inS t128 (" #-.0123456789:>ABCDEFGHIJKLMNOPQRSTUVWXYZabcdefghijklmnopqrstuvwxyz" : Str)))) else some (false)).bind fun t122 => some (t122)) else some (false)).bind fun t113 => some (t113,(s84)))
def Zbg   (s143 : Int) : Option Int :=
 (some ((s143 + 1)))
def Zcd (a_text : Str)  (s33 : ((List Str) × Int)) : Option (Ctl ((List Str) × Int) (Option (List Str))) :=
 ((Zbt (Zce a_text s33) (["<digits>","<word>","<any>"] : List Str) (("" : Str))).bind fun t53 => (Zdh (Zaq a_text t53) Zbg fuel (s33.2)).bind fun t80 => if ((decide (t53 = ("" : Str))) && (decide (t80 = s33.2))) = true then (some (.rt none)) else (((if (decide (t53 = ("" : Str))) = true then (gd (Zb0 a_text) <| some ((cutS a_text (some s33.2) (some t80)))) else (some (t53)))).bind fun (t164 : Str) => gd (fits s33.1) <| gd (Zb0 t164) <| some (.nx ((s33.1 ++ [t164]),(s33.2 + ((t164).length : Int))))))
def Zd0 (a_text : Str) : Option (Option (List Str)) :=
 ((Zh5 (Zbh a_text) (Zcd a_text) fuel (([] : List Str),0)).bind fun t9 => aft t9 fun s184 => some (some s184.1))
def Zcb  (x28 : Str) (s30 : Unit) : Option (Ctl Unit Bool) :=
 (if (!inS x28 (" #-.0123456789:>ABCDEFGHIJKLMNOPQRSTUVWXYZabcdefghijklmnopqrstuvwxyz" : Str)) = true then (some (.rt false)) else (some (.nx ())))
def Zfd (a_thing : Th) : Option Bool :=
 ((if (!(thIs "str" a_thing)) = true then some (true) else ((thS a_thing).bind fun t10 => some ((decide (t10 = ("" : Str)))))).bind fun t4 => if t4 = true then (some false) else ((thS a_thing).bind fun t20 => (Zh3 Zcb (sgns t20) ()).bind fun t23 => aft t23 fun s46 => some true))
def Zdp (a_parts : (List Str)) (a_at : Int) : Option Bool :=
 ((atI a_parts a_at).bind fun t1 => if ((decide ((4) ≤ a_at)) || false) = true then (some false) else (if (decide (t1 = ("<any>" : Str))) = true then (some (!decide (("<any>" : Str) ∈ (cut a_parts none (some a_at))))) else (if (decide (t1 ∈ (["<digits>","<word>","<any>"] : List Str))) = true then (some true) else ((if (decide (0 < a_at)) = true then ((atI a_parts (a_at - 1)).bind fun t26 => some ((!decide (t26 ∈ (["<digits>","<word>","<any>"] : List Str))))) else some (false)).bind fun t20 => if t20 = true then (some false) else ((Zfd ((Th.d (PyData.str (t1))))).bind fun t39 => (if t39 = true then (gd (Zb0 t1) <| some ((decide (((t1).length : Int) ≤ (4))))) else some (false)).bind fun t48 => some t48)))))
def Zc3 (a_parts : (List Str)) (x8 : Int) (s10 : Unit) : Option Unit :=
 ((Zdp (a_parts) (x8)).bind fun t21 => if (!t21) = true then (none) else (some ()))
def Zan (a_parts : (List Str)) : Option (List Str) :=
 (if (decide (((a_parts).length : Int) = 0)) = true then (none) else (gd (rgOk 0 ((a_parts).length : Int)) <| (Zbt (Zc3 a_parts) (rng 0 ((a_parts).length : Int)) ()).bind fun t3 => some (a_parts)))
def Za6 : Nat → Str → Str → Option Pat
 | 0,_,_ => none
 | n + 1,a_text,a_whole => (if (!(Txt.startswith a_text ("(" : Str))) = true then ((Zd0 (a_text)).bind fun t2 => if ((t2).isNone) = true then (none) else ((t2).bind fun t11 => gd (Nat.ble (t11).length 900) <| (Zan t11).bind fun t18 => some (Pat.form t18))) else (gd (Zb0 a_text) <| (Zea ((cutS a_text (some 1) (some (-1))))).bind fun t28 => if ((!(Txt.endswith a_text (")" : Str))) || ((t28).isNone)) = true then (none) else ((t28).bind fun t37 => gd (Zb0 (cutS a_text (some 1) (some (-1)))) <| gd (Zb0 (cutS (cutS a_text (some 1) (some (-1))) none (some t37))) <| (if (!decide ((cutS (cutS (cutS a_text (some 1) (some (-1))) none (some t37)) (some (-1)) none) = (" " : Str))) = true then some (true) else (gd (Zb0 (cutS a_text (some 1) (some (-1)))) <| some ((!decide ((cutS (cutS a_text (some 1) (some (-1))) (some (t37 + 1)) (some (t37 + 2))) = (" " : Str)))))).bind fun t43 => if t43 = true then (none) else (gd (Zb0 (cutS a_text (some 1) (some (-1)))) <| (Za6 n ((cutS (cutS a_text (some 1) (some (-1))) none (some (t37 - 1)))) (a_whole)).bind fun t58 => gd (Zb0 (cutS a_text (some 1) (some (-1)))) <| (Za6 n ((cutS (cutS a_text (some 1) (some (-1))) (some (t37 + 2)) none)) (a_whole)).bind fun t67 => (ixS (cutS a_text (some 1) (some (-1))) t37).bind fun t75 => (if (decide (t75 = ("&" : Str))) = true then ((Zaz (t58) (t67)).bind fun t84 => some (t84)) else ((Za2 (t58) (t67)).bind fun t97 => some (t97))).bind fun t77 => some t77))))
def Zbj (a_text : Str) : Option Pat :=
 (if (decide ((3) ≤ (Txt.count a_text ("(" : Str)))) = true then (none) else ((Za6 3 (a_text) (a_text)).bind fun t2 => some t2))
def Zbc (a_self : Pat) (a_other : Pat) : Option Bool :=
 ((Zdy (a_self)).bind fun t1 => (Zdy (a_other)).bind fun t9 => some (decide (t1 = t9)))
def Zc2 (a_pool_here : (Int × Int)) (a_line_here : Str) : Option (Str × (Int × Int)) :=
 (gd (Zb0 a_line_here) <| (Zap (a_pool_here) ((((a_line_here).length : Int) + 1))).bind fun t2 => (Zbm).bind fun t12 => (Zap (t2.2) (68)).bind fun t20 => (ixS t12 t20.1).bind fun t30 => (Zap (t20.2) (5)).bind fun t32 => if (decide (t32.1 = 0)) = true then (gd (Zb0 a_line_here) <| gd (Zee (cutS a_line_here none (some t2.1)) t30) <| gd (Zb0 a_line_here) <| gd (Zee ((cutS a_line_here none (some t2.1)) ++ t30) (cutS a_line_here (some t2.1) none)) <| some ((((cutS a_line_here none (some t2.1)) ++ t30) ++ (cutS a_line_here (some t2.1) none)),t32.2)) else (if (decide (t32.1 = 1)) = true then (gd (Zb0 a_line_here) <| gd (Zb0 a_line_here) <| gd (Zee (cutS a_line_here none (some t2.1)) (cutS a_line_here (some (t2.1 + 1)) none)) <| some (((cutS a_line_here none (some t2.1)) ++ (cutS a_line_here (some (t2.1 + 1)) none)),t32.2)) else (if (decide (t32.1 = 2)) = true then (gd (Zb0 a_line_here) <| gd (Zee (cutS a_line_here none (some t2.1)) t30) <| gd (Zb0 a_line_here) <| gd (Zee ((cutS a_line_here none (some t2.1)) ++ t30) (cutS a_line_here (some (t2.1 + 1)) none)) <| some ((((cutS a_line_here none (some t2.1)) ++ t30) ++ (cutS a_line_here (some (t2.1 + 1)) none)),t32.2)) else (some (a_line_here,t32.2)))))
def Zia (a_self : (List Str)) (a_truths : (List Bool)) : Option Bool :=
 ((atI a_truths 0).bind fun t1 => some t1)
def Zfq  (x23 : Str) (s25 : (List Str)) : Option (List Str) :=
 (if (decide (x23 ∈ (["<digits>","<word>","<any>"] : List Str))) = true then (gd (fits s25) <| some ((s25 ++ [x23]))) else (gd (Zb0 x23) <| gd (Zk2 s25 (sgns x23)) <| some ((s25 ++ (sgns x23)))))
def Zd3 (a_parts : (List Str)) : Option (List Str) :=
 ((Zbt Zfq a_parts (([] : List Str))).bind fun t17 => some t17)
def Zg3 (a_cells : (List Str)) (a_positions : (List Int)) (x17 : Int) (s19 : (List Int)) : Option (List Int) :=
 ((if (decide (x17 ∈ a_positions)) = true then some (true) else ((if (decide (0 < x17)) = true then ((atI a_cells (x17 - 1)).bind fun t69 => some (((decide (t69 = ("<any>" : Str))) && (decide ((x17 - 1) ∈ s19))))) else some (false)).bind fun t63 => some (t63))).bind fun t53 => if t53 = true then (gd (fits s19) <| some ((s19 ++ [x17]))) else (some (s19)))
def Zgm (a_cells : (List Str)) (a_positions : (List Int)) : Option (List Int) :=
 (gd (rgOk 0 (((a_cells).length : Int) + 1)) <| (Zbt (Zg3 a_cells a_positions) (rng 0 (((a_cells).length : Int) + 1)) (([] : List Int))).bind fun t11 => some t11)
def Zga (a_cells : (List Str)) : Option (List Int) :=
 ((Zgm (a_cells) (([0] : List Int))).bind fun t8 => some t8)
def Zdq (a_self : (List Str)) : Option (List Str) :=
 (some a_self)
def Zf9 (a_cell : Str) (a_sign : Str) : Option Bool :=
 (if (decide (a_cell = ("<any>" : Str))) = true then (some true) else (if (decide (a_cell = ("<digits>" : Str))) = true then (some (inS a_sign ("0123456789" : Str))) else (if (decide (a_cell = ("<word>" : Str))) = true then (some (inS a_sign ("ABCDEFGHIJKLMNOPQRSTUVWXYZabcdefghijklmnopqrstuvwxyz" : Str))) else (some (decide (a_cell = a_sign))))))
def Zh2 (a_cells : (List Str)) (a_sign : Str) (x23 : Int) (s25 : (List Int)) : Option (List Int) :=
 ((((if (decide (x23 < ((a_cells).length : Int))) = true then ((atI a_cells x23).bind fun t61 => (Zf9 (t61) (a_sign)).bind fun t65 => some (t65)) else some (false)).bind fun t55 => if t55 = true then ((atI a_cells x23).bind fun t80 => (if (decide (t80 = ("<any>" : Str))) = true then (some (x23)) else (some ((x23 + 1)))).bind fun t84 => gd (fits s25) <| some ((s25 ++ [t84]))) else (some (s25)))).bind fun (t39 : (List Int)) => (if (decide (0 < x23)) = true then ((atI a_cells (x23 - 1)).bind fun t169 => (if (decide (t169 ∈ [("<digits>" : Str),("<word>" : Str)])) = true then ((atI a_cells (x23 - 1)).bind fun t197 => (Zf9 (t197) (a_sign)).bind fun t201 => some (t201)) else some (false)).bind fun t191 => some (t191)) else some (false)).bind fun t163 => if t163 = true then (gd (fits t39) <| some ((t39 ++ [x23]))) else (some (t39)))
def Zjc (a_cells : (List Str)) (a_positions : (List Int)) (a_sign : Str) : Option (List Int) :=
 ((Zbt (Zh2 a_cells a_sign) a_positions (([] : List Int))).bind fun t17 => (Zgm (a_cells) (t17)).bind fun t244 => some t244)
def Zhj (a_cells : (List Str)) (a_positions : (List Int)) : Option Bool :=
 (some (decide (((a_cells).length : Int) ∈ a_positions)))
def Zbf (t65 : (List Str)) (x86 : Str) (s88 : (List Int)) : Option (List Int) :=
 ((Zjc (t65) (s88) (x86)).bind fun t102 => some (t102))
def Za0 (a_line : Str) (x37 : (List Str)) (s39 : (List Bool)) : Option (List Bool) :=
 ((Zdq (x37)).bind fun t56 => (Zd3 (t56)).bind fun t65 => (Zga (t65)).bind fun t73 => (Zbt (Zbf t65) (sgns a_line) (t73)).bind fun t81 => (Zhj (t65) (t81)).bind fun t119 => gd (fits s39) <| some ((s39 ++ [t119])))
def Zaw (a_self : Pat) (a_line : Str) : Option Bool :=
 ((Zfd ((Th.d (PyData.str (a_line))))).bind fun t2 => if (!t2) = true then (some false) else ((Zcq (a_self)).bind fun t19 => (Zbt (Za0 a_line) t19 (([] : List Bool))).bind fun t31 => (Zjb (a_self) (t31)).bind fun t151 => some t151))
def Zca : Nat → Shp → (List (List Str)) → Option Pat
 | 0,_,_ => none
 | n + 1,a_shape_here,a_forms => (if (decide ((Shp.len a_shape_here) = 1)) = true then ((Shp.num a_shape_here).bind fun t2 => (atI a_forms t2).bind fun t4 => some (Pat.form t4)) else ((Shp.lft a_shape_here).bind fun t9 => (Zca n (t9) (a_forms)).bind fun t13 => (Shp.rgt a_shape_here).bind fun t21 => (Zca n (t21) (a_forms)).bind fun t25 => (Shp.op a_shape_here).bind fun t33 => if (decide (t33 = ("&" : Str))) = true then ((Zaz (t13) (t25)).bind fun t36 => some t36) else ((Za2 (t13) (t25)).bind fun t44 => some t44)))
def Zfk  (x11 : Str) (s13 : ((Int × Int) × Str)) : Option ((Int × Int) × Str) :=
 (if (decide (x11 = ("<digits>" : Str))) = true then ((Zap (s13.1) (10)).bind fun t26 => (ixS ("0123456789" : Str) t26.1).bind fun t36 => (Zap (t26.2) (3)).bind fun t38 => gd (Zjp t36 (1 + t38.1)) <| gd (Zee s13.2 (repS t36 (1 + t38.1))) <| some (t38.2,(s13.2 ++ (repS t36 (1 + t38.1))))) else (if (decide (x11 = ("<word>" : Str))) = true then ((Zap (s13.1) (4)).bind fun t51 => (ixS ("aBzb" : Str) t51.1).bind fun t61 => (Zap (t51.2) (3)).bind fun t63 => gd (Zjp t61 (1 + t63.1)) <| gd (Zee s13.2 (repS t61 (1 + t63.1))) <| some (t63.2,(s13.2 ++ (repS t61 (1 + t63.1))))) else (if (decide (x11 = ("<any>" : Str))) = true then ((Zd1 (s13.1)).bind fun t76 => (Zap (t76.2) (3)).bind fun t86 => gd (Zjp t76.1 t86.1) <| gd (Zee s13.2 (repS t76.1 t86.1)) <| some (t86.2,(s13.2 ++ (repS t76.1 t86.1)))) else (gd (Zee s13.2 x11) <| some (s13.1,(s13.2 ++ x11))))))
def Zfb (a_pool_here : (Int × Int)) (a_parts : (List Str)) : Option (Str × (Int × Int)) :=
 ((Zbt Zfk a_parts (a_pool_here,("" : Str))).bind fun t5 => some (t5.2,t5.1))
def Zcs : Nat → Shp → (List Bool) → Option Bool
 | 0,_,_ => none
 | n + 1,a_shape_here,a_flags => (if (decide ((Shp.len a_shape_here) = 1)) = true then ((Shp.num a_shape_here).bind fun t2 => (atI a_flags t2).bind fun t4 => some t4) else ((Shp.lft a_shape_here).bind fun t8 => (Zcs n (t8) (a_flags)).bind fun t12 => (Shp.rgt a_shape_here).bind fun t20 => (Zcs n (t20) (a_flags)).bind fun t24 => (Shp.op a_shape_here).bind fun t32 => (if (decide (t32 = ("&" : Str))) = true then (some ((t12 && t24))) else (some ((t12 || t24)))).bind fun t34 => some t34))
def Zdd (a_parts : (List Str)) : Option (List Str) :=
 (if (decide (((a_parts).length : Int) = 1)) = true then ((atI a_parts 0).bind fun t2 => (Zan [t2]).bind fun t6 => some t6) else (if (decide (((a_parts).length : Int) = 2)) = true then ((atI a_parts 0).bind fun t15 => (atI a_parts 1).bind fun t19 => (Zan [t15,t19]).bind fun t23 => some t23) else (if (decide (((a_parts).length : Int) = 3)) = true then ((atI a_parts 0).bind fun t32 => (atI a_parts 1).bind fun t36 => (atI a_parts 2).bind fun t40 => (Zan [t32,t36,t40]).bind fun t44 => some t44) else ((atI a_parts 0).bind fun t52 => (atI a_parts 1).bind fun t56 => (atI a_parts 2).bind fun t60 => (atI a_parts 3).bind fun t64 => (Zan [t52,t56,t60,t64]).bind fun t68 => some t68))))
def Zdc (a_part : Str) (a_sign : Str) : Option Bool :=
 (if (decide (a_part = ("<digits>" : Str))) = true then (some (inS a_sign ("0123456789" : Str))) else (some ((decide (a_part = ("<word>" : Str))) && (inS a_sign ("ABCDEFGHIJKLMNOPQRSTUVWXYZabcdefghijklmnopqrstuvwxyz" : Str)))))
def Zfp (a_part : Str) (a_line_here : Str)  (s35 : ((List Int) × Int)) : Option (Bool × ((List Int) × Int)) :=
 (gd (Zb0 a_line_here) <| (if (decide (s35.2 < ((a_line_here).length : Int))) = true then ((ixS a_line_here s35.2).bind fun t66 => (Zdc (a_part) (t66)).bind fun t68 => some (t68)) else some (false)).bind fun t60 => some (t60,(s35.1,s35.2)))
def Zfo   (s83 : ((List Int) × Int)) : Option ((List Int) × Int) :=
 (gd (fits s83.1) <| some ((s83.1 ++ [(s83.2 + 1)]),(s83.2 + 1)))
def Zfc (a_part : Str) (a_line_here : Str) (a_at : Int) : Option (List Int) :=
 (if (decide (a_part = ("<any>" : Str))) = true then (gd (Zb0 a_line_here) <| gd (rgFit a_at (((a_line_here).length : Int) + 1)) <| some (rng a_at (((a_line_here).length : Int) + 1))) else (((if (decide (a_part ∈ [("<digits>" : Str),("<word>" : Str)])) = true then ((Zdh (Zfp a_part a_line_here) Zfo fuel (([] : List Int),a_at)).bind fun t30 => some (t30.1)) else (gd (Zb0 a_part) <| gd (Zb0 a_line_here) <| if (decide ((cutS a_line_here (some a_at) (some (a_at + ((a_part).length : Int)))) = a_part)) = true then (gd (Zb0 a_part) <| gd (fits ([] : List Int)) <| some ((([] : List Int) ++ [(a_at + ((a_part).length : Int))]))) else (some (([] : List Int)))))).bind fun (t19 : (List Int)) => some t19))
def Zfn (s51 : (List Int)) (x82 : Int) (s84 : Unit) : Option (Option Int × Unit) :=
 (if (!decide (x82 ∈ s51)) = true then (some (some x82,())) else some (none,()))
def Zfm (a_line_here : Str) (x16 : Str) (x49 : Int) (s51 : (List Int)) : Option (List Int) :=
 ((Zfc (x16) (a_line_here) (x49)).bind fun t65 => gd (Zk1 t65) <| (comp (Zfn s51) t65 ()).bind fun t78 => gd (Zk2 s51 t78.1) <| some ((s51 ++ t78.1)))
def Zfl (a_line_here : Str) (x16 : Str) (s18 : (List Int)) : Option (List Int) :=
 ((Zbt (Zfm a_line_here x16) s18 (([] : List Int))).bind fun t44 => some (t44))
def Zd2 (a_parts : (List Str)) (a_line_here : Str) : Option Bool :=
 ((Zbt (Zfl a_line_here) a_parts (([0] : List Int))).bind fun t11 => (if (!decide (a_line_here = ("" : Str))) = true then (gd (Zb0 a_line_here) <| some ((decide (((a_line_here).length : Int) ∈ t11)))) else some (false)).bind fun t147 => some t147)
def m_law_right_b1  (x34 : (List Str)) (s36 : Unit) : Option (Option (List Str) × Unit) :=
 ((Zdd (x34)).bind fun t53 => some (some t53,()))
def m_law_right_b2  (x104 : (List Str)) (s106 : Unit) : Option (Option (List Str) × Unit) :=
 ((Zdd (x104)).bind fun t123 => some (some t123,()))
def Zdf  (x110 : (List Str)) (s112 : Unit) : Option (Option (List Str) × Unit) :=
 ((Zdd (x110)).bind fun t129 => some (some t129,()))
def Zes  (x195 : (List Str)) (s197 : Unit) : Option (Option (List Str) × Unit) :=
 ((Zdq (x195)).bind fun t214 => some (some t214,()))
def Zer  (x249 : (List Str)) (s251 : Unit) : Option (Option (List Str) × Unit) :=
 (some (some x249,()))
def Zeq (t346 : (Str × (Int × Int))) (x373 : (List Str)) (s375 : Unit) : Option (Option Bool × Unit) :=
 ((Zd2 (x373) (t346.1)).bind fun t392 => some (some t392,()))
def Zep (a_drawn : (List (List Str))) (a_shape_here : Shp) (t9 : Pat) (x320 : (List Str)) (s322 : (Int × Int)) : Option (Ctl (Int × Int) (Bool × (Int × Int))) :=
 ((Zfb (s322) (x320)).bind fun t336 => (Zc2 (t336.2) (t336.1)).bind fun t346 => (Zaw (t9) (t346.1)).bind fun t356 => gd (Zk1 a_drawn) <| (comp (Zeq t346) a_drawn ()).bind fun t369 => (Zcs 3 (a_shape_here) (t369.1)).bind fun t418 => if (!decide (t356 = t418)) = true then (some (.rt (false,t346.2))) else (some (.nx (t346.2))))
def Zec (a_pool_here : (Int × Int)) (a_drawn : (List (List Str))) (a_shape_here : Shp) : Option (Bool × (Int × Int)) :=
 ((Zcr 3 (a_shape_here) (a_drawn)).bind fun t1 => (Zbj (t1)).bind fun t9 => (Zdy (t9)).bind fun t17 => (if (!decide (t17 = t1)) = true then some (true) else (gd (Zk1 a_drawn) <| (comp Zdf a_drawn ()).bind fun t106 => (Zca 3 (a_shape_here) (t106.1)).bind fun t155 => (Zbc (t9) (t155)).bind fun t163 => some ((!t163)))).bind fun t95 => if t95 = true then (some (false,a_pool_here)) else ((Zcq (t9)).bind fun t178 => gd (Zk1 t178) <| (comp Zes t178 ()).bind fun t191 => gd (Zk1 a_drawn) <| (comp Zer a_drawn ()).bind fun t245 => gd (shp (dL (dT dS)) t191.1) <| gd (shp (dL (dT dS)) t245.1) <| if (!decide (t191.1 = t245.1)) = true then (some (false,a_pool_here)) else ((if (!decide ((decide ((t9).cls = "Form")) = (decide (((a_drawn).length : Int) = 1)))) = true then some (true) else (gd (shOkS a_shape_here) <| some ((!decide ((decide ((t9).cls = "Both")) = (Shp.isOp a_shape_here ("&" : Str))))))).bind fun t296 => if t296 = true then (some (false,a_pool_here)) else ((Zh3 (Zep a_drawn a_shape_here t9) a_drawn (a_pool_here)).bind fun t314 => aft t314 fun s432 => gd (shOkS a_shape_here) <| (if (decide ((decide ((t9).cls = "Either")) = (Shp.isOp a_shape_here ("|" : Str)))) = true then ((Zbj (t1)).bind fun t465 => (Zbc (t465) (t9)).bind fun t473 => some (t473)) else some (false)).bind fun t459 => some (t459,s432)))))
def Zgw  (x7 : Int) (s9 : Unit) : Option (Option Shp × Unit) :=
 (some (some (Shp.lf x7),()))
def Zeo   (s56 : ((Int × Int) × (List Shp))) : Option (Bool × ((Int × Int) × (List Shp))) :=
 (some ((decide (1 < ((s56.2).length : Int))),(s56.1,s56.2)))
def Zen   (s73 : ((Int × Int) × (List Shp))) : Option ((Int × Int) × (List Shp)) :=
 ((Zap (s73.1) ((((s73.2).length : Int) - 1))).bind fun t87 => (Zap (t87.2) (2)).bind fun t109 => (atI [("&" : Str),("|" : Str)] t109.1).bind fun t119 => (atI s73.2 t87.1).bind fun t123 => (atI s73.2 (t87.1 + 1)).bind fun t127 => gd (Zk2 (cut s73.2 none (some t87.1)) [(Shp.nd ((t119,t123,t127)).1 ((t119,t123,t127)).2.1 ((t119,t123,t127)).2.2)]) <| gd (Zk2 ((cut s73.2 none (some t87.1)) ++ [(Shp.nd ((t119,t123,t127)).1 ((t119,t123,t127)).2.1 ((t119,t123,t127)).2.2)]) (cut s73.2 (some (t87.1 + 2)) none)) <| some (t109.2,(((cut s73.2 none (some t87.1)) ++ [(Shp.nd ((t119,t123,t127)).1 ((t119,t123,t127)).2.1 ((t119,t123,t127)).2.2)]) ++ (cut s73.2 (some (t87.1 + 2)) none))))
def Zeb (a_pool_here : (Int × Int)) (a_many : Int) : Option (Shp × (Int × Int)) :=
 (gd (rgOk 0 a_many) <| gd (Zk1 (rng 0 a_many)) <| (comp Zgw (rng 0 a_many) ()).bind fun t3 => (Zdh Zeo Zen fuel (a_pool_here,t3.1)).bind fun t51 => (atI t51.2 0).bind fun t175 => some (t175,t51.1))
def Zkx  (x50 : Int) (s52 : (Int × Int)) : Option (Option (List Str) × (Int × Int)) :=
 ((Ze9 (s52)).bind fun t70 => some (some t70.1,(t70.2)))
def Zkw (a_script : (List Int)) (x7 : Int) (s9 : Unit) : Option (Ctl Unit Bool) :=
 ((Zfa (a_script) (x7)).bind fun t23 => (Zap (t23) (3)).bind fun t34 => gd (rgOk 0 (1 + t34.1)) <| gd (Zk1 (rng 0 (1 + t34.1))) <| (comp Zkx (rng 0 (1 + t34.1)) (t34.2)).bind fun t46 => (Zeb (t46.2) (((t46.1).length : Int))).bind fun t99 => (Zec (t99.2) (t46.1) (t99.1)).bind fun t109 => if (!t109.1) = true then (some (.rt false)) else (some (.nx ())))
def m_law (a_script : (List Int)) : Option Bool :=
 (gd (rgOk 0 (maxI 1 (minI 24 ((a_script).length : Int)))) <| (Zh3 (Zkw a_script) (rng 0 (maxI 1 (minI 24 ((a_script).length : Int)))) ()).bind fun t2 => aft t2 fun s124 => some true)
structure Tx (K : PySem.W.Frag) (mg : Str → Option Value) : Prop where
 F_law_pool : FnD' K ("_law_pool",none) "_law_pool" "_law_pool" Zez
 g_law_pool : mg "_law_pool" = some (.ref (He.ga K "_law_pool"))
 F_law_take : FnD' K ("_law_take",none) "_law_take" "_law_take" Zex
 g_law_take : mg "_law_take" = some (.ref (He.ga K "_law_take"))
 F_law_all_signs : FnD' K ("_law_all_signs",none) "_law_all_signs" "_law_all_signs" Zb4
 g_law_all_signs : mg "_law_all_signs" = some (.ref (He.ga K "_law_all_signs"))
 F_law_text : FnD' K ("_law_text",none) "_law_text" "_law_text" Zew
 g_law_text : mg "_law_text" = some (.ref (He.ga K "_law_text"))
 F_law_rich : FnD' K ("_law_rich",none) "_law_rich" "_law_rich" Zey
 g_law_rich : mg "_law_rich" = some (.ref (He.ga K "_law_rich"))
 F_Form___str__ : FnD' K ("Form",some "__str__") "__str__" "Form.__str__" Zcl
 F_Both___str__ : FnD' K ("Both",some "__str__") "__str__" "Both.__str__" Zco
 F_Either___str__ : FnD' K ("Either",some "__str__") "__str__" "Either.__str__" Zbw
 F_law_shown : FnD' K ("_law_shown",none) "_law_shown" "_law_shown" Zd7
 g_law_shown : mg "_law_shown" = some (.ref (He.ga K "_law_shown"))
 F_middle_of : FnD' K ("middle_of",none) "middle_of" "middle_of" Zd5
 g_middle_of : mg "middle_of" = some (.ref (He.ga K "middle_of"))
 F_Form_forms : FnD' K ("Form",some "forms") "forms" "Form.forms" Zdm
 F_Either_forms : FnD' K ("Either",some "forms") "forms" "Either.forms" Zcn
 F_Both_forms : FnD' K ("Both",some "forms") "forms" "Both.forms" Zdo
 F_Both___init__ : FnD' K ("Both",some "__init__") "__init__" "Both.__init__" Zb6
 F_Pattern___and__ : FnD' K ("Pattern",some "__and__") "__and__" "Pattern.__and__" Zbk
 F_Either___init__ : FnD' K ("Either",some "__init__") "__init__" "Either.__init__" Zbl
 F_Pattern___or__ : FnD' K ("Pattern",some "__or__") "__or__" "Pattern.__or__" Zbu
 F_parts_of : FnD' K ("parts_of",none) "parts_of" "parts_of" Zev
 g_parts_of : mg "parts_of" = some (.ref (He.ga K "parts_of"))
 F_is_line : FnD' K ("is_line",none) "is_line" "is_line" Zf1
 g_is_line : mg "is_line" = some (.ref (He.ga K "is_line"))
 F_is_allowed : FnD' K ("is_allowed",none) "is_allowed" "is_allowed" Zdj
 g_is_allowed : mg "is_allowed" = some (.ref (He.ga K "is_allowed"))
 F_Form___init__ : FnD' K ("Form",some "__init__") "__init__" "Form.__init__" Zb5
 F_pattern_of : FnD' K ("pattern_of",none) "pattern_of" "pattern_of" Zdi
 g_pattern_of : mg "pattern_of" = some (.ref (He.ga K "pattern_of"))
 F_read_pattern : FnD' K ("read_pattern",none) "read_pattern" "read_pattern" Zck
 g_read_pattern : mg "read_pattern" = some (.ref (He.ga K "read_pattern"))
 F_Pattern___eq__ : FnD' K ("Pattern",some "__eq__") "__eq__" "Pattern.__eq__" Zbv
 F_law_spoiled : FnD' K ("_law_spoiled",none) "_law_spoiled" "_law_spoiled" Zcy
 g_law_spoiled : mg "_law_spoiled" = some (.ref (He.ga K "_law_spoiled"))
 F_Form___contains__ : FnD' K ("Form",some "__contains__") "__contains__" "Pattern.__contains__" Zbr
 F_Both___contains__ : FnD' K ("Both",some "__contains__") "__contains__" "Pattern.__contains__" Zbs
 F_Either___contains__ : FnD' K ("Either",some "__contains__") "__contains__" "Pattern.__contains__" Zbd
 F_Form_holds : FnD' K ("Form",some "holds") "holds" "Form.holds" Zdl
 F_Either_holds : FnD' K ("Either",some "holds") "holds" "Either.holds" Zcm
 F_Both_holds : FnD' K ("Both",some "holds") "holds" "Both.holds" Zdn
 F_cells_of : FnD' K ("cells_of",none) "cells_of" "cells_of" Ze3
 g_cells_of : mg "cells_of" = some (.ref (He.ga K "cells_of"))
 F_closed : FnD' K ("closed",none) "closed" "closed" Zha
 g_closed : mg "closed" = some (.ref (He.ga K "closed"))
 F_started : FnD' K ("started",none) "started" "started" Zf0
 g_started : mg "started" = some (.ref (He.ga K "started"))
 F_Form_parts : FnD' K ("Form",some "parts") "parts" "Form.parts" Zdk
 F_takes : FnD' K ("takes",none) "takes" "takes" Ziz
 g_takes : mg "takes" = some (.ref (He.ga K "takes"))
 F_moved : FnD' K ("moved",none) "moved" "moved" Zi0
 g_moved : mg "moved" = some (.ref (He.ga K "moved"))
 F_is_done : FnD' K ("is_done",none) "is_done" "is_done" Zf2
 g_is_done : mg "is_done" = some (.ref (He.ga K "is_done"))
 F_law_built : FnD' K ("_law_built",none) "_law_built" "_law_built" Zd9
 g_law_built : mg "_law_built" = some (.ref (He.ga K "_law_built"))
 F_law_line : FnD' K ("_law_line",none) "_law_line" "_law_line" Ze0
 g_law_line : mg "_law_line" = some (.ref (He.ga K "_law_line"))
 F_law_holds : FnD' K ("_law_holds",none) "_law_holds" "_law_holds" Zd8
 g_law_holds : mg "_law_holds" = some (.ref (He.ga K "_law_holds"))
 F_law_form : FnD' K ("_law_form",none) "_law_form" "_law_form" Ze1
 g_law_form : mg "_law_form" = some (.ref (He.ga K "_law_form"))
 F_law_takes : FnD' K ("_law_takes",none) "_law_takes" "_law_takes" Zd6
 g_law_takes : mg "_law_takes" = some (.ref (He.ga K "_law_takes"))
 F_law_ends : FnD' K ("_law_ends",none) "_law_ends" "_law_ends" Ze2
 g_law_ends : mg "_law_ends" = some (.ref (He.ga K "_law_ends"))
 F_law_fits : FnD' K ("_law_fits",none) "_law_fits" "_law_fits" Zdz
 g_law_fits : mg "_law_fits" = some (.ref (He.ga K "_law_fits"))
 F_law_right : FnD' K ("_law_right",none) "_law_right" "_law_right" Zbq
 g_law_right : mg "_law_right" = some (.ref (He.ga K "_law_right"))
 F_law_shape : FnD' K ("_law_shape",none) "_law_shape" "_law_shape" Zc8
 g_law_shape : mg "_law_shape" = some (.ref (He.ga K "_law_shape"))
 F_law : FnD' K ("law",none) "law" "law" s_law
 g_law : mg "law" = some (.ref (He.ga K "law"))
 c_Form : Cls K (He.ga K "Form")
 gc_Form : mg "Form" = some (.ref (He.ga K "Form"))
 na_Form_pieces : NoAttr K (He.ga K "Form") "pieces"
 me_Form___str__ : Meth K (He.ga K "Form") "__str__" (He.fAd K ("Form",some "__str__"))
 me_Form_forms : Meth K (He.ga K "Form") "forms" (He.fAd K ("Form",some "forms"))
 mk_Form : Mk K (He.ga K "Form") (He.fAd K ("Form",some "__init__"))
 me_Form___contains__ : Meth K (He.ga K "Form") "__contains__" (He.fAd K ("Form",some "__contains__"))
 me_Form_holds : Meth K (He.ga K "Form") "holds" (He.fAd K ("Form",some "holds"))
 me_Form_parts : Meth K (He.ga K "Form") "parts" (He.fAd K ("Form",some "parts"))
 c_Both : Cls K (He.ga K "Both")
 gc_Both : mg "Both" = some (.ref (He.ga K "Both"))
 na_Both_left : NoAttr K (He.ga K "Both") "left"
 na_Both_right : NoAttr K (He.ga K "Both") "right"
 me_Both___str__ : Meth K (He.ga K "Both") "__str__" (He.fAd K ("Both",some "__str__"))
 me_Both_forms : Meth K (He.ga K "Both") "forms" (He.fAd K ("Both",some "forms"))
 mk_Both : Mk K (He.ga K "Both") (He.fAd K ("Both",some "__init__"))
 me_Both___contains__ : Meth K (He.ga K "Both") "__contains__" (He.fAd K ("Both",some "__contains__"))
 me_Both_holds : Meth K (He.ga K "Both") "holds" (He.fAd K ("Both",some "holds"))
 c_Either : Cls K (He.ga K "Either")
 gc_Either : mg "Either" = some (.ref (He.ga K "Either"))
 na_Either_left : NoAttr K (He.ga K "Either") "left"
 na_Either_right : NoAttr K (He.ga K "Either") "right"
 me_Either___str__ : Meth K (He.ga K "Either") "__str__" (He.fAd K ("Either",some "__str__"))
 me_Either_forms : Meth K (He.ga K "Either") "forms" (He.fAd K ("Either",some "forms"))
 mk_Either : Mk K (He.ga K "Either") (He.fAd K ("Either",some "__init__"))
 me_Either___contains__ : Meth K (He.ga K "Either") "__contains__" (He.fAd K ("Either",some "__contains__"))
 me_Either_holds : Meth K (He.ga K "Either") "holds" (He.fAd K ("Either",some "holds"))
 c_Pattern : Cls K (He.ga K "Pattern")
 gc_Pattern : mg "Pattern" = some (.ref (He.ga K "Pattern"))
 me_Pattern___and__ : Meth K (He.ga K "Pattern") "__and__" (He.fAd K ("Pattern",some "__and__"))
 me_Pattern___or__ : Meth K (He.ga K "Pattern") "__or__" (He.fAd K ("Pattern",some "__or__"))
 me_Pattern___eq__ : Meth K (He.ga K "Pattern") "__eq__" (He.fAd K ("Pattern",some "__eq__"))
 pf : PatF K
 pe : PatE K
 gx_NoForm : mg "NoForm" = some (.ref (He.ga K "NoForm"))
 pn : patNB K = true
 k_ANY_CELL : ∃ t,mg "ANY_CELL" = some (.str "<any>" t)
 k_DIGITS_CELL : ∃ t,mg "DIGITS_CELL" = some (.str "<digits>" t)
 k_DIGIT_SIGNS : ∃ t,mg "DIGIT_SIGNS" = some (.str "0123456789" t)
 g_FREE_CELLS : mg "FREE_CELLS" = some (.ref (He.ga K "FREE_CELLS"))
 q_FREE_CELLS : ∀ F : Hp,(qT qS).r K F (.ref (He.ga K "FREE_CELLS")) (["<digits>","<word>","<any>"] : List Str)
 k_LETTER_SIGNS : ∃ t,mg "LETTER_SIGNS" = some (.str "ABCDEFGHIJKLMNOPQRSTUVWXYZabcdefghijklmnopqrstuvwxyz" t)
 k_MOST_FORMS : ∃ t,mg "MOST_FORMS" = some (.int 3 t)
 k_MOST_PARTS : ∃ t,mg "MOST_PARTS" = some (.int 4 t)
 k_MOST_SIGNS : ∃ t,mg "MOST_SIGNS" = some (.int 4 t)
 k_SIGNS : ∃ t,mg "SIGNS" = some (.str " #-.0123456789:>ABCDEFGHIJKLMNOPQRSTUVWXYZabcdefghijklmnopqrstuvwxyz" t)
 k_WORD_CELL : ∃ t,mg "WORD_CELL" = some (.str "<word>" t)
 n_enumerate : mg "enumerate" = none
 n_int : mg "int" = none
 n_isinstance : mg "isinstance" = none
 n_len : mg "len" = none
 n_list : mg "list" = none
 n_max : mg "max" = none
 n_min : mg "min" = none
 n_range : mg "range" = none
 n_str : mg "str" = none
 n_tuple : mg "tuple" = none
section
variable {P : Program} {w : World} {K : PySem.W.Frag} {mg : Str → Option Value} {base : Heap}
theorem Zgc {P0' : Addr → Prop} {F0 H0 F H : Hp} {v : V} {a : (List Str)} {Q : VK} (T : Tx K mg) (S : Sx P0' F0 H0 F H) (r : qForm.r K F v a) (k : ∀ u,(qT qS).r K F u a → Q u H) : fdK K "pieces" Q v H := by
 obtain ⟨p,dx,u0,rfl,h2,k0⟩ := r
 exact Zfs (S.sub _ _ h2) T.c_Form T.na_Form_pieces (by rfl) (k _ k0)
theorem mt_Form___str__ {P0' : Addr → Prop} {F0 H0 F H : Hp} {v : V} {a : (List Str)} {G : V → Hp → Prop} (S : Sx P0' F0 H0 F H) (r : qForm.r K F v a) (k : G v H) : mtK (He.ga K "Form") "__str__" G v H := by
 obtain ⟨p,dx,u0,rfl,h2,k0⟩ := r
 exact Zjw (S.sub _ _ h2) (by rfl) k
theorem mt_Form_forms {P0' : Addr → Prop} {F0 H0 F H : Hp} {v : V} {a : (List Str)} {G : V → Hp → Prop} (S : Sx P0' F0 H0 F H) (r : qForm.r K F v a) (k : G v H) : mtK (He.ga K "Form") "forms" G v H := by
 obtain ⟨p,dx,u0,rfl,h2,k0⟩ := r
 exact Zjw (S.sub _ _ h2) (by rfl) k
theorem in_Form___contains__ {P0' : Addr → Prop} {F0 H0 F H : Hp} {v : V} {a : (List Str)} {Q : VK} {E : XK} {sp : L2.Sp} {x : V} (S : Sx P0' F0 H0 F H) (r : qForm.r K F v a) (k : sp [v,x] H (inK Q) E) : rInO (He.ga K "Form") sp E x v H Q := by
 obtain ⟨p,dx,u0,rfl,h2,k0⟩ := r
 exact in_at (S.sub _ _ h2) k
theorem mt_Form_holds {P0' : Addr → Prop} {F0 H0 F H : Hp} {v : V} {a : (List Str)} {G : V → Hp → Prop} (S : Sx P0' F0 H0 F H) (r : qForm.r K F v a) (k : G v H) : mtK (He.ga K "Form") "holds" G v H := by
 obtain ⟨p,dx,u0,rfl,h2,k0⟩ := r
 exact Zjw (S.sub _ _ h2) (by rfl) k
theorem Zhi {P0' : Addr → Prop} {F0 H0 F H : Hp} {v : V} {a : (List Str)} {G : V → Hp → Prop} (S : Sx P0' F0 H0 F H) (r : qForm.r K F v a) (k : G v H) : mtK (He.ga K "Form") "parts" G v H := by
 obtain ⟨p,dx,u0,rfl,h2,k0⟩ := r
 exact Zjw (S.sub _ _ h2) (by rfl) k
theorem fld_Both_left {P0' : Addr → Prop} {F0 H0 F H : Hp} {v : V} {a : (Pat × Pat)} {Q : VK} (T : Tx K mg) (S : Sx P0' F0 H0 F H) (r : qBoth.r K F v a) (k : ∀ u,qPat.r K F u a.1 → Q u H) : fdK K "left" Q v H := by
 obtain ⟨p,dx,u0,u1,rfl,h2,k0,k1⟩ := r
 exact Zfs (S.sub _ _ h2) T.c_Both T.na_Both_left (by rfl) (k _ k0)
theorem fld_Both_right {P0' : Addr → Prop} {F0 H0 F H : Hp} {v : V} {a : (Pat × Pat)} {Q : VK} (T : Tx K mg) (S : Sx P0' F0 H0 F H) (r : qBoth.r K F v a) (k : ∀ u,qPat.r K F u a.2 → Q u H) : fdK K "right" Q v H := by
 obtain ⟨p,dx,u0,u1,rfl,h2,k0,k1⟩ := r
 exact Zfs (S.sub _ _ h2) T.c_Both T.na_Both_right (by rfl) (k _ k1)
theorem mt_Both___str__ {P0' : Addr → Prop} {F0 H0 F H : Hp} {v : V} {a : (Pat × Pat)} {G : V → Hp → Prop} (S : Sx P0' F0 H0 F H) (r : qBoth.r K F v a) (k : G v H) : mtK (He.ga K "Both") "__str__" G v H := by
 obtain ⟨p,dx,u0,u1,rfl,h2,k0,k1⟩ := r
 exact Zjw (S.sub _ _ h2) (by rfl) k
theorem mt_Both_forms {P0' : Addr → Prop} {F0 H0 F H : Hp} {v : V} {a : (Pat × Pat)} {G : V → Hp → Prop} (S : Sx P0' F0 H0 F H) (r : qBoth.r K F v a) (k : G v H) : mtK (He.ga K "Both") "forms" G v H := by
 obtain ⟨p,dx,u0,u1,rfl,h2,k0,k1⟩ := r
 exact Zjw (S.sub _ _ h2) (by rfl) k
theorem in_Both___contains__ {P0' : Addr → Prop} {F0 H0 F H : Hp} {v : V} {a : (Pat × Pat)} {Q : VK} {E : XK} {sp : L2.Sp} {x : V} (S : Sx P0' F0 H0 F H) (r : qBoth.r K F v a) (k : sp [v,x] H (inK Q) E) : rInO (He.ga K "Both") sp E x v H Q := by
 obtain ⟨p,dx,u0,u1,rfl,h2,k0,k1⟩ := r
 exact in_at (S.sub _ _ h2) k
theorem mt_Both_holds {P0' : Addr → Prop} {F0 H0 F H : Hp} {v : V} {a : (Pat × Pat)} {G : V → Hp → Prop} (S : Sx P0' F0 H0 F H) (r : qBoth.r K F v a) (k : G v H) : mtK (He.ga K "Both") "holds" G v H := by
 obtain ⟨p,dx,u0,u1,rfl,h2,k0,k1⟩ := r
 exact Zjw (S.sub _ _ h2) (by rfl) k
theorem fld_Either_left {P0' : Addr → Prop} {F0 H0 F H : Hp} {v : V} {a : (Pat × Pat)} {Q : VK} (T : Tx K mg) (S : Sx P0' F0 H0 F H) (r : qEither.r K F v a) (k : ∀ u,qPat.r K F u a.1 → Q u H) : fdK K "left" Q v H := by
 obtain ⟨p,dx,u0,u1,rfl,h2,k0,k1⟩ := r
 exact Zfs (S.sub _ _ h2) T.c_Either T.na_Either_left (by rfl) (k _ k0)
theorem fld_Either_right {P0' : Addr → Prop} {F0 H0 F H : Hp} {v : V} {a : (Pat × Pat)} {Q : VK} (T : Tx K mg) (S : Sx P0' F0 H0 F H) (r : qEither.r K F v a) (k : ∀ u,qPat.r K F u a.2 → Q u H) : fdK K "right" Q v H := by
 obtain ⟨p,dx,u0,u1,rfl,h2,k0,k1⟩ := r
 exact Zfs (S.sub _ _ h2) T.c_Either T.na_Either_right (by rfl) (k _ k1)
theorem mt_Either___str__ {P0' : Addr → Prop} {F0 H0 F H : Hp} {v : V} {a : (Pat × Pat)} {G : V → Hp → Prop} (S : Sx P0' F0 H0 F H) (r : qEither.r K F v a) (k : G v H) : mtK (He.ga K "Either") "__str__" G v H := by
 obtain ⟨p,dx,u0,u1,rfl,h2,k0,k1⟩ := r
 exact Zjw (S.sub _ _ h2) (by rfl) k
theorem mt_Either_forms {P0' : Addr → Prop} {F0 H0 F H : Hp} {v : V} {a : (Pat × Pat)} {G : V → Hp → Prop} (S : Sx P0' F0 H0 F H) (r : qEither.r K F v a) (k : G v H) : mtK (He.ga K "Either") "forms" G v H := by
 obtain ⟨p,dx,u0,u1,rfl,h2,k0,k1⟩ := r
 exact Zjw (S.sub _ _ h2) (by rfl) k
theorem in_Either___contains__ {P0' : Addr → Prop} {F0 H0 F H : Hp} {v : V} {a : (Pat × Pat)} {Q : VK} {E : XK} {sp : L2.Sp} {x : V} (S : Sx P0' F0 H0 F H) (r : qEither.r K F v a) (k : sp [v,x] H (inK Q) E) : rInO (He.ga K "Either") sp E x v H Q := by
 obtain ⟨p,dx,u0,u1,rfl,h2,k0,k1⟩ := r
 exact in_at (S.sub _ _ h2) k
theorem mt_Either_holds {P0' : Addr → Prop} {F0 H0 F H : Hp} {v : V} {a : (Pat × Pat)} {G : V → Hp → Prop} (S : Sx P0' F0 H0 F H) (r : qEither.r K F v a) (k : G v H) : mtK (He.ga K "Either") "holds" G v H := by
 obtain ⟨p,dx,u0,u1,rfl,h2,k0,k1⟩ := r
 exact Zjw (S.sub _ _ h2) (by rfl) k
def sp_law_pool (K : PySem.W.Frag) : Sp := fun vs H Q _ => ∃ (F : Hp) (v_script : V) (a_script : List Int) (a_k : Int) (r : (Int × Int)),vs = [v_script,(V.int (a_k))] ∧ Same F H ∧ qC.r K F v_script a_script ∧ Zfa a_script a_k = some r ∧ ∀ p F' H',H p = none → Sx P0 F H F' H' → Ow (fun a => a = p) H F' H' p (.lst [.int r.1,.int r.2]) → Q (.ref p) H'
theorem sc_law_pool : FnScope ["_law_script","_law_k","_law_cell","_law_seed"] ["_law_script","_law_k"] (defScope Zez) := ⟨rfl,rfl,rfl,by decide +kernel,rfl,by decide +kernel,by decide +kernel⟩
theorem bn_law_pool (T : Tx K mg) : Binds K (fdOf K ("_law_pool",none)) ["_law_script","_law_k"] [] := FunD.bindsN T.F_law_pool fun _ _ _ _ _ _ us hl => match us,hl with | [_,_],_ => rfl
theorem ok_law_pool (T : Tx K mg) : FnOk P w K mg base CX0 1 (He.ga K "_law_pool") (fdOf K ("_law_pool",none)) ["_law_script","_law_k"] (sp_law_pool K) := by
 refine FunD.ok T.F_law_pool sc_law_pool (fun vs H0 Q E h => ?_) (fun cdv A outer s H0 vs Q E hr h => ?_)
 ·
  obtain ⟨_,_,_,_,_,rfl,_⟩ := h
  rfl
 ·
  obtain ⟨F0,v_script,a_script,a_k,r,rfl,hE,f_script,hm,hQ⟩ := h
  refine ⟨_,PSs.nox ((pss_cons (ps_set (i := 2) sc_law_pool.nd rfl (dk rfl) pe_int) (C8.pss_cut (ps_if (pt_cmpR (r := rNeD K) (op_neD hr.units) (pv 0) (pe_lst pa_nil) (nomark _)) (pss_one (ps_set (i := 2) sc_law_pool.nd rfl (dk rfl) (pe_ix (r := rIxL K) ix_list (pv 0) (pe_op op_mod (pe_callTy Zid (by rfl) T.n_int (by decide +kernel) (pa_cons (pv 1) pa_nil)) (pe_callB (r := Zc9 K) Za3 (by rfl) T.n_len (by decide +kernel) (pa_cons (pv 0) pa_nil))) (fun _ _ => rfl)))) pss_nil) (pss_cons (ps_set (i := 3) sc_law_pool.nd rfl (dk rfl) (pe_op op_mod (pe_op op_mul (pe_callTy Zid (by rfl) T.n_int (by decide +kernel) (pa_cons (pe_op op_add (pe_op op_add (pe_op op_mod (pe_callTy Zid (by rfl) T.n_int (by decide +kernel) (pa_cons (pv 2) pa_nil)) pe_int) (pe_op op_mul pe_int (pv 1))) pe_int) pa_nil)) pe_int) pe_int)) (pss_one (ps_ret (pe_lst (pa_cons (pe_op op_mul (pv 2) (pe_callTy Zid (by rfl) T.n_int (by decide +kernel) (pa_cons (pe_cmpR op_ge (pv 2) (pe_op op_pow pe_int pe_int) (nomark _)) pa_nil))) (pa_cons (pv 3) pa_nil))))))))),?_⟩
  have S : Sx P0 F0 H0 F0 H0 := Sx.refl0 hE
  unfold Zfa at hm
  obtain ⟨t1,e2,hm⟩ := Zab hm
  refine Zaf <| Zak <| rd_c <| Zam ?_
  refine rd_cut (fun σ' H' => ∃ (F : Hp) (o3 : Option V),σ' = [some v_script,some (V.int (a_k)),some (V.int (t1)),o3] ∧ Sx P0 F0 H0 F H') ?_ ?_
  ·
   have S3 := Sx.refl0 S.sub
   refine Zal <| Zag <| Zad <| rd_v rfl <| Zcz <| Zac <| Zfg rfl ?_
   refine alL (K := K) (A := qI) (xs := ([] : List Int)) S3 .nil (fun v4 F5 H6 c7 f8 => ?_)
   have S9 := S3.call0 c7
   have f_script := f_script.up c7
   obtain ⟨g10,e2⟩ := Zae e2
   obtain ⟨g11,e2⟩ := Zae e2
   refine rd_neD (D := (dL dI)) (S9.cd f_script) (S9.d (dL dI) f8) g10 g11 ?_
   refine rd_b ?_
   refine if_b e2 (fun b12 e2 => ?_) (fun b12 e2 => ?_)
   ·
    obtain ⟨g13,e2⟩ := Zae e2
    obtain ⟨t14,e15,e2⟩ := Zab e2
    refine Zak <| Zad <| rd_v rfl <| Zad <| Zay <| Zaa <| rd_v rfl <| Zac ?_
    refine Zg0 ?_
    refine Zay <| Zaa <| rd_v rfl <| Zac ?_
    refine Zbi (S9.c f_script).q ?_
    refine rd_I (Zfh g13) ?_
    refine Zbp (S9.c f_script) e15 (fun u16 f17 => ?_)
    cases (show u16 = (V.int (t14)) from f17)
    cases e2
    refine Zam ?_
    exact ⟨F5,_,rfl,S9⟩
   ·
    cases e2
    refine Zaj ?_
    exact ⟨F5,_,rfl,S9⟩
  ·
   rintro σ19 H18 ⟨F20,o22,rfl,S21⟩
   have S23 := S.call0 S21
   have f_script := f_script.up S21
   obtain ⟨g24,hm⟩ := Zae hm
   obtain ⟨g25,hm⟩ := Zae hm
   obtain ⟨g26,hm⟩ := Zae hm
   obtain ⟨g27,hm⟩ := Zae hm
   obtain ⟨g28,hm⟩ := Zae hm
   obtain ⟨g29,hm⟩ := Zae hm
   refine Zaf <| Zak <| Zad <| Zad <| Zay <| Zaa <| Zad <| Zad <| Zad <| Zay <| Zaa <| rd_v rfl <| Zac ?_
   refine Zg0 ?_
   refine rd_c ?_
   refine rd_I (Zfh g24) ?_
   refine Zad <| rd_c <| rd_v rfl ?_
   refine rd_I (Zhh g25) ?_
   refine Zax <| rd_c <| Zax <| Zac ?_
   refine Zg0 ?_
   refine rd_c ?_
   refine rd_I (Zhh g26) ?_
   refine rd_c ?_
   refine rd_I (Zfh g27) ?_
   refine Zam <| Zai <| Zcz <| Zaa <| Zad <| rd_v rfl <| Zay <| Zaa <| Zad <| rd_v rfl <| Zad <| rd_c <| rd_c ?_
   refine rd_I (powOk_of g28) ?_
   refine Zax <| Zac ?_
   refine rd_intB ?_
   refine rd_I (Zhh g29) ?_
   refine Zaa <| rd_v rfl <| Zac <| Zfg rfl ?_
   refine al S23 (fun p30 H31 np32 c33 w34 => ?_)
   have z35 := S23.free0 np32
   have S36 := S23.call0 c33
   have f_script := f_script.up c33
   cases hm
   exact hQ _ _ _ z35 S36 ⟨w34.fr,w34.at_,.inr rfl⟩
def sp_law_take (K : PySem.W.Frag) : Sp := fun vs H Q _ => ∃ (F : Hp) (p_pool_here : Addr) (a_pool_here : Int × Int) (a_many : Int) (r : (Int × (Int × Int))),vs = [.ref p_pool_here,(V.int (a_many))] ∧ Same F H ∧ Ow (fun a => a = p_pool_here) H F H p_pool_here (.lst [.int a_pool_here.1,.int a_pool_here.2]) ∧ Zap a_pool_here a_many = some r ∧ ∀ v F' H',Sx (fun a => a = p_pool_here) F H F' H' → Ow (fun a => a = p_pool_here) H F' H' p_pool_here (.lst [.int r.2.1,.int r.2.2]) → qI.r K F' v r.1 → Q v H'
theorem sc_law_take : FnScope ["_law_pool_here","_law_many","_law_digit"] ["_law_pool_here","_law_many"] (defScope Zex) := ⟨rfl,rfl,rfl,by decide +kernel,rfl,by decide +kernel,by decide +kernel⟩
theorem Zat (T : Tx K mg) : Binds K (fdOf K ("_law_take",none)) ["_law_pool_here","_law_many"] [] := FunD.bindsN T.F_law_take fun _ _ _ _ _ _ us hl => match us,hl with | [_,_],_ => rfl
theorem Zar (T : Tx K mg) : FnOk P w K mg base CX0 1 (He.ga K "_law_take") (fdOf K ("_law_take",none)) ["_law_pool_here","_law_many"] (sp_law_take K) := by
 refine FunD.ok T.F_law_take sc_law_take (fun vs H0 Q E h => ?_) (fun cdv A outer s H0 vs Q E hr h => ?_)
 ·
  obtain ⟨_,_,_,_,_,rfl,_⟩ := h
  rfl
 ·
  obtain ⟨F0,p_pool_here,a_pool_here,a_many,r,rfl,hE,w_pool_here,hm,hQ⟩ := h
  refine ⟨_,PSs.nox ((pss_cons (ps_if (pt_cmpR op_gt (pe_ix (r := rIxL K) ix_list (pv 0) pe_int (fun _ _ => rfl)) pe_int (nomark _)) (pss_cons (ps_set (i := 2) sc_law_take.nd rfl (dk rfl) (pe_op op_mod (pe_callTy Zid (by rfl) T.n_int (by decide +kernel) (pa_cons (pe_ix (r := rIxL K) ix_list (pv 0) pe_int (fun _ _ => rfl)) pa_nil)) (pv 1))) (pss_cons (ps_asg (pe_op op_fdiv (pe_ix (r := rIxL K) ix_list (pv 0) pe_int (fun _ _ => rfl)) (pv 1)) (pg_sub (pv 0) pe_int set_list)) (pss_one (ps_ret (pv 2))))) pss_nil) (pss_cons (ps_asg (pe_op op_mod (pe_callTy Zid (by rfl) T.n_int (by decide +kernel) (pa_cons (pe_op op_add (pe_op op_mul (pe_ix (r := rIxL K) ix_list (pv 0) pe_int (fun _ _ => rfl)) pe_int) pe_int) pa_nil)) pe_int) (pg_sub (pv 0) pe_int set_list)) (pss_one (ps_ret (pe_op op_mod (pe_callTy Zid (by rfl) T.n_int (by decide +kernel) (pa_cons (pe_op op_fdiv (pe_op op_mod (pe_callTy Zid (by rfl) T.n_int (by decide +kernel) (pa_cons (pe_op op_mul (pe_ix (r := rIxL K) ix_list (pv 0) pe_int (fun _ _ => rfl)) (pe_ix (r := rIxL K) ix_list (pv 0) pe_int (fun _ _ => rfl))) pa_nil)) pe_int) pe_int) pa_nil)) (pv 1))))))),?_⟩
  have S : Sx (fun a => a = p_pool_here) F0 H0 F0 H0 := Sx.refl hE (Zjy w_pool_here)
  unfold Zap at hm
  refine Zaf <| Zal <| Zag <| Zad <| Zad <| rd_v rfl <| rd_c ?_
  refine pool0 w_pool_here ?_
  refine rd_c <| Zax <| rd_b ?_
  refine if_b hm (fun b1 hm => ?_) (fun b1 hm => ?_)
  ·
   obtain ⟨g2,hm⟩ := Zae hm
   obtain ⟨g3,hm⟩ := Zae hm
   refine Zaf <| Zak <| Zad <| Zay <| Zaa <| Zad <| rd_v rfl <| rd_c ?_
   refine pool0 w_pool_here ?_
   refine Zac ?_
   refine Zg0 ?_
   refine rd_v rfl ?_
   refine rd_I (Zfh g2) ?_
   refine Zam <| Zaf <| Zak <| Zad <| Zad <| rd_v rfl <| rd_c ?_
   refine pool0 w_pool_here ?_
   refine rd_v rfl ?_
   refine rd_I (divOk_of g3) ?_
   refine rd_gsub <| rd_v rfl <| rd_c ?_
   refine pset0 S w_pool_here (fun H4 c5 w6 => ?_)
   have S7 := S.call1 c5 w_pool_here
   cases hm
   refine Zai <| rd_v rfl ?_
   exact hQ _ _ _ S7 w6 rfl
  ·
   obtain ⟨g8,hm⟩ := Zae hm
   obtain ⟨g9,hm⟩ := Zae hm
   refine Zaj <| Zaf <| Zak <| Zad <| Zay <| Zaa <| Zad <| Zad <| Zad <| rd_v rfl <| rd_c ?_
   refine pool1 w_pool_here ?_
   refine rd_c ?_
   refine rd_I (Zhh g8) ?_
   refine rd_c <| Zax <| Zac ?_
   refine Zg0 ?_
   refine rd_c ?_
   refine rd_I (Zfh g9) ?_
   refine rd_gsub <| rd_v rfl <| rd_c ?_
   refine pset1 S w_pool_here (fun H10 c11 w12 => ?_)
   have S13 := S.call1 c11 w_pool_here
   obtain ⟨g14,hm⟩ := Zae hm
   obtain ⟨g15,hm⟩ := Zae hm
   obtain ⟨g16,hm⟩ := Zae hm
   obtain ⟨g17,hm⟩ := Zae hm
   cases hm
   refine Zai <| Zad <| Zay <| Zaa <| Zad <| Zad <| Zay <| Zaa <| Zad <| Zad <| rd_v rfl <| rd_c ?_
   refine pool1 w12 ?_
   refine Zad <| rd_v rfl <| rd_c ?_
   refine pool1 w12 ?_
   refine rd_I (Zhh g14) ?_
   refine Zac ?_
   refine Zg0 ?_
   refine rd_c ?_
   refine rd_I (Zfh g15) ?_
   refine rd_c ?_
   refine rd_I (divOk_of g16) ?_
   refine Zac ?_
   refine Zg0 ?_
   refine rd_v rfl ?_
   refine rd_I (Zfh g17) ?_
   exact hQ _ _ _ S13 w12 rfl
def Zih (K : PySem.W.Frag) : Sp := fun vs H Q _ => ∃ (F : Hp)  (r : Str),vs = [] ∧ Same F H ∧ Zbm = some r ∧ ∀ v F' H',Sx P0 F H F' H' → qS.r K F' v r → Q v H'
theorem Zij : FnScope [] [] (defScope Zb4) := ⟨rfl,rfl,rfl,by decide +kernel,rfl,by decide +kernel,by decide +kernel⟩
theorem Zfz (T : Tx K mg) : Binds K (fdOf K ("_law_all_signs",none)) [] [] := FunD.bindsN T.F_law_all_signs fun _ _ _ _ _ _ us hl => match us,hl with | [],_ => rfl
theorem Zfx (T : Tx K mg) : FnOk P w K mg base CX0 1 (He.ga K "_law_all_signs") (fdOf K ("_law_all_signs",none)) [] (Zih K) := by
 refine FunD.ok T.F_law_all_signs Zij (fun vs H0 Q E h => ?_) (fun cdv A outer s H0 vs Q E hr h => ?_)
 ·
  obtain ⟨_,_,rfl,_⟩ := h
  rfl
 ·
  obtain ⟨F0,r,rfl,hE,hm,hQ⟩ := h
  refine ⟨_,PSs.nox ((pss_one (ps_ret pe_str))),?_⟩
  have S : Sx P0 F0 H0 F0 H0 := Sx.refl0 hE
  unfold Zbm at hm
  cases hm
  refine Zai <| rd_c ?_
  exact hQ _ _ _ S rfl
def sp_law_text (K : PySem.W.Frag) : Sp := fun vs H Q _ => ∃ (F : Hp) (p_pool_here : Addr) (a_pool_here : Int × Int) (r : (Str × (Int × Int))),vs = [.ref p_pool_here] ∧ Same F H ∧ Ow (fun a => a = p_pool_here) H F H p_pool_here (.lst [.int a_pool_here.1,.int a_pool_here.2]) ∧ Zd1 a_pool_here = some r ∧ ∀ v F' H',Sx (fun a => a = p_pool_here) F H F' H' → Ow (fun a => a = p_pool_here) H F' H' p_pool_here (.lst [.int r.2.1,.int r.2.2]) → qS.r K F' v r.1 → Q v H'
theorem sc_law_text : FnScope ["_law_pool_here","_law_text_here","_law_style","_law_k"] ["_law_pool_here"] (defScope Zew) := ⟨rfl,rfl,rfl,by decide +kernel,rfl,by decide +kernel,by decide +kernel⟩
theorem Zjl (T : Tx K mg) : Binds K (fdOf K ("_law_text",none)) ["_law_pool_here"] [] := FunD.bindsN T.F_law_text fun _ _ _ _ _ _ us hl => match us,hl with | [_],_ => rfl
theorem Zi8 (T : Tx K mg) : FnOk P w K mg base CX0 2 (He.ga K "_law_text") (fdOf K ("_law_text",none)) ["_law_pool_here"] (sp_law_text K) := by
 refine FunD.ok T.F_law_text sc_law_text (fun vs H0 Q E h => ?_) (fun cdv A outer s H0 vs Q E hr h => ?_)
 ·
  obtain ⟨_,_,_,_,rfl,_⟩ := h
  rfl
 ·
  obtain ⟨F0,p_pool_here,a_pool_here,r,rfl,hE,w_pool_here,hm,hQ⟩ := h
  refine ⟨_,PSs.nox ((pss_cons (ps_set (i := 1) sc_law_text.nd rfl (dk rfl) pe_str) (pss_cons (ps_set (i := 2) sc_law_text.nd rfl (dk rfl) (pe_call (Zar T) (hr.mono (by decide)) (by rfl) T.g_law_take T.F_law_take.kp (Zat T) .nil pass0 (pa_cons (pv 0) (pa_cons pe_int pa_nil)))) (pss_cons (ps_for PassesOwn.never rfl (pi_range1 (by rfl) T.n_range (pa_cons (pe_op op_add pe_int (pe_call (Zar T) (hr.mono (by decide)) (by rfl) T.g_law_take T.F_law_take.kp (Zat T) .nil pass0 (pa_cons (pv 0) (pa_cons pe_int pa_nil)))) pa_nil)) (pg_name (i := 3) sc_law_text.nd rfl (dk rfl)) (pss_one (ps_if (pt_cmpR Zc5 (pv 2) pe_int (nomark _)) (pss_one (ps_set (i := 1) sc_law_text.nd rfl (dk rfl) (pe_op Zb9 (pv 1) (pe_ix ix_str (pe_call0 (Zfx T) (hr.mono (by decide)) (by rfl) T.g_law_all_signs T.F_law_all_signs.kp (Zfz T) .nil pass0) (pe_call (Zar T) (hr.mono (by decide)) (by rfl) T.g_law_take T.F_law_take.kp (Zat T) .nil pass0 (pa_cons (pv 0) (pa_cons pe_int pa_nil))) (fun _ _ => rfl))))) (pss_one (ps_set (i := 1) sc_law_text.nd rfl (dk rfl) (pe_op Zb9 (pv 1) (pe_ix ix_str pe_str (pe_call (Zar T) (hr.mono (by decide)) (by rfl) T.g_law_take T.F_law_take.kp (Zat T) .nil pass0 (pa_cons (pv 0) (pa_cons pe_int pa_nil))) (fun _ _ => rfl)))))))) (pss_one (ps_ret (pv 1))))))),?_⟩
  have S : Sx (fun a => a = p_pool_here) F0 H0 F0 H0 := Sx.refl hE (Zjy w_pool_here)
  unfold Zd1 at hm
  obtain ⟨t1,e2,hm⟩ := Zab hm
  refine Zaf <| Zak <| rd_c <| Zam <| Zaf <| Zak <| Zah <| Zaa <| rd_v rfl <| Zaa <| rd_c <| Zac ?_
  refine ⟨F0,_,_,_,t1,rfl,S.sub,w_pool_here.arg,e2,fun v6 F3 H4 c5 w8 f7 => ?_⟩
  have S9 := S.call1 c5 w_pool_here
  have w10 := w_pool_here.back w8
  cases (show v6 = (V.int (t1.1)) from f7)
  obtain ⟨t11,e12,hm⟩ := Zab hm
  refine Zam <| Zaf <| Zdv ?_
  refine Zi6 ?_
  refine Zaa <| Zad <| rd_c <| Zah <| Zaa <| rd_v rfl <| Zaa <| rd_c <| Zac ?_
  refine ⟨F3,_,_,_,t11,rfl,S9.sub,w10.arg,e12,fun v16 F13 H14 c15 w18 f17 => ?_⟩
  have S19 := S9.call1 c15 w10
  have w20 := w10.back w18
  cases (show v16 = (V.int (t11.1)) from f17)
  obtain ⟨g21,hm⟩ := Zae hm
  refine Zax <| Zac ?_
  refine rd_r1 g21 ?_
  obtain ⟨t22,e23,hm⟩ := Zab hm
  refine Zds Zg5 (Ziu (K := K) (F := F13)) e23 (fun (s24 : ((Int × Int) × Str)) σ H => ∃ (F : Hp) (o3 : Option V),σ = [some (V.ref p_pool_here),some (V.str (s24.2)),some (V.int (t1.1)),o3] ∧ Sx (fun a => a = p_pool_here) F13 H14 F H ∧ Ow (fun a => a = p_pool_here) H14 F H p_pool_here (.lst [V.int s24.1.1,V.int s24.1.2])) ?_ ?_ ?_ ?_
  ·
   intro _ _ _ _; trivial
  ·
   have S26 : Sx (fun a => a = p_pool_here) _ _ _ _ := Sx.refl S19.sub (fun a z => by rw [z,w20.at_]; exact (fun h => nomatch h))
   have w27 : Ow (fun a => a = p_pool_here) H14 _ _ _ _ := ⟨w20.fr,w20.at_,.inr (rfl)⟩
   exact ⟨F13,_,rfl,S26,w27⟩
  ·
   rintro x28 v29 s30 c34 σ31 H32 f33 ⟨F35,o37,rfl,S36,w38⟩ hm41
   unfold Zfi at hm41
   cases (show v29 = (V.int (x28)) from f33)
   refine Zam <| Zal <| Zag <| Zad <| rd_v rfl <| rd_c <| Zax <| rd_b ?_
   refine if_b hm41 (fun b42 hm41 => ?_) (fun b42 hm41 => ?_)
   ·
    obtain ⟨t43,e44,hm41⟩ := Zab hm41
    refine Zak <| Zad <| rd_v rfl <| Zad <| Zah <| Zac ?_
    refine ⟨F35,t43,rfl,S36.sub,e44,fun v48 F45 H46 c47 f49 => ?_⟩
    have S50 := S36.call0 c47
    have w38 := w38.call0 c47
    cases (show v48 = (V.str (t43)) from f49)
    obtain ⟨t51,e52,hm41⟩ := Zab hm41
    refine Zah <| Zaa <| rd_v rfl <| Zaa <| rd_c <| Zac ?_
    refine ⟨F45,_,_,_,t51,rfl,S50.sub,w38.arg,e52,fun v56 F53 H54 c55 w58 f57 => ?_⟩
    have S59 := S50.call1 c55 w38
    have w60 := w38.back w58
    cases (show v56 = (V.int (t51.1)) from f57)
    obtain ⟨t61,e62,hm41⟩ := Zab hm41
    obtain ⟨g63,hm41⟩ := Zae hm41
    cases hm41
    refine Zh7 e62 ?_
    refine Zb7 g63 ?_
    refine Zam ?_
    exact ⟨F53,_,rfl,S59,w60⟩
   ·
    obtain ⟨t64,e65,hm41⟩ := Zab hm41
    refine Zak <| Zad <| rd_v rfl <| Zad <| rd_c <| Zah <| Zaa <| rd_v rfl <| Zaa <| rd_c <| Zac ?_
    refine ⟨F35,_,_,_,t64,rfl,S36.sub,w38.arg,e65,fun v69 F66 H67 c68 w71 f70 => ?_⟩
    have S72 := S36.call1 c68 w38
    have w73 := w38.back w71
    cases (show v69 = (V.int (t64.1)) from f70)
    obtain ⟨t74,e75,hm41⟩ := Zab hm41
    obtain ⟨g76,hm41⟩ := Zae hm41
    cases hm41
    refine Zh7 e75 ?_
    refine Zb7 g76 ?_
    refine Zam ?_
    exact ⟨F66,_,rfl,S72,w73⟩
  ·
   rintro σ77 H78 ⟨F79,o81,rfl,S80,w82⟩
   have S83 := S19.call1 S80 w20
   have w84 : Ow (fun a => a = p_pool_here) H0 _ _ _ _ := ⟨w82.fr,w82.at_,w20.mine⟩
   cases hm
   refine Zai <| rd_v rfl ?_
   exact hQ _ _ _ S83 w84 rfl
def sp_law_rich (K : PySem.W.Frag) : Sp := fun vs H Q _ => ∃ (F : Hp) (p_pool_here : Addr) (a_pool_here : Int × Int) (r : ((List Str) × (Int × Int))),vs = [.ref p_pool_here] ∧ Same F H ∧ Ow (fun a => a = p_pool_here) H F H p_pool_here (.lst [.int a_pool_here.1,.int a_pool_here.2]) ∧ Ze9 a_pool_here = some r ∧ ∀ v F' H',Sx (fun a => a = p_pool_here) F H F' H' → Ow (fun a => a = p_pool_here) H F' H' p_pool_here (.lst [.int r.2.1,.int r.2.2]) → (qL qS).r K F' v r.1 → Q v H'
theorem sc_law_rich : FnScope ["_law_pool_here","_law_parts","_law_k","_law_kind","_law_fixed"] ["_law_pool_here"] (defScope Zey) := ⟨rfl,rfl,rfl,by decide +kernel,rfl,by decide +kernel,by decide +kernel⟩
theorem bn_law_rich (T : Tx K mg) : Binds K (fdOf K ("_law_rich",none)) ["_law_pool_here"] [] := FunD.bindsN T.F_law_rich fun _ _ _ _ _ _ us hl => match us,hl with | [_],_ => rfl
theorem ok_law_rich (T : Tx K mg) : FnOk P w K mg base CX0 3 (He.ga K "_law_rich") (fdOf K ("_law_rich",none)) ["_law_pool_here"] (sp_law_rich K) := by
 refine FunD.ok T.F_law_rich sc_law_rich (fun vs H0 Q E h => ?_) (fun cdv A outer s H0 vs Q E hr h => ?_)
 ·
  obtain ⟨_,_,_,_,rfl,_⟩ := h
  rfl
 ·
  obtain ⟨F0,p_pool_here,a_pool_here,r,rfl,hE,w_pool_here,hm,hQ⟩ := h
  refine ⟨_,PSs.nox ((pss_cons (ps_set (i := 1) sc_law_rich.nd rfl (dk rfl) (pe_lst pa_nil)) (pss_cons (ps_for PassesOwn.never rfl (pi_range1 (by rfl) T.n_range (pa_cons (pe_op op_add pe_int (pe_call (Zar T) (hr.mono (by decide)) (by rfl) T.g_law_take T.F_law_take.kp (Zat T) .nil pass0 (pa_cons (pv 0) (pa_cons pe_int pa_nil)))) pa_nil)) (pg_name (i := 2) sc_law_rich.nd rfl (dk rfl)) (pss_cons (ps_set (i := 3) sc_law_rich.nd rfl (dk rfl) (pe_call (Zar T) (hr.mono (by decide)) (by rfl) T.g_law_take T.F_law_take.kp (Zat T) .nil pass0 (pa_cons (pv 0) (pa_cons pe_int pa_nil)))) (pss_cons (ps_set (i := 4) sc_law_rich.nd rfl (dk rfl) (pe_and (pe_cmpR (r := rNeD K) (op_neD hr.units) (pv 1) (pe_lst pa_nil) (nomark _)) (pe_one (pe_cmpR (r := rIn K true) op_notIn_seq (pe_ix (r := rIxL K) ix_list (pv 1) (pe_un un_neg pe_int) (fun _ _ => rfl)) (pe_tup (pa_cons pe_str (pa_cons pe_str (pa_cons pe_str pa_nil)))) rfl)))) (pss_one (ps_if (PW.pt (pw_and (pt_cmpR Zc5 (pv 3) pe_int (nomark _)) (pw_and1 (pt_cmpR (r := rIn K true) op_notIn_seq pe_str (pv 1) rfl)))) (pss_one (ps_expr (Zcv (K := K) PySem.F.plainAttrs_list PySem.F.slot_list_append PySem.F.type_list_append mt_append (pv 1) (pa_cons pe_str pa_nil)))) (pss_one (ps_if (pt_cmpR Zc5 (pv 3) pe_int (nomark _)) (pss_one (ps_expr (Zcv (K := K) PySem.F.plainAttrs_list PySem.F.slot_list_append PySem.F.type_list_append mt_append (pv 1) (pa_cons pe_str pa_nil)))) (pss_one (ps_if (PW.pt (pw_or (pt_cmpR Zc5 (pv 3) pe_int (nomark _)) (pw_or1 (pt_val (pv 4))))) (pss_one (ps_expr (Zcv (K := K) PySem.F.plainAttrs_list PySem.F.slot_list_append PySem.F.type_list_append mt_append (pv 1) (pa_cons pe_str pa_nil)))) (pss_one (ps_expr (Zcv (K := K) PySem.F.plainAttrs_list PySem.F.slot_list_append PySem.F.type_list_append mt_append (pv 1) (pa_cons (pe_call (Zi8 T) (hr.mono (by decide)) (by rfl) T.g_law_text T.F_law_text.kp (Zjl T) .nil pass0 (pa_cons (pv 0) pa_nil)) pa_nil))))))))))))) (pss_one (ps_ret (pv 1)))))),?_⟩
  have S : Sx (fun a => a = p_pool_here) F0 H0 F0 H0 := Sx.refl hE (Zjy w_pool_here)
  unfold Ze9 at hm
  refine Zaf <| Zak <| Zcz <| Zac <| Zfg rfl ?_
  refine al S (fun p1 H2 np3 c4 w5 => ?_)
  have r6 : Row qS K F0 [] ([] : List Str) := .nil
  have ne7 : p_pool_here ≠ p1 := w_pool_here.ne np3
  have z8 := S.free0 np3
  have S9 := S.call0 c4
  have w_pool_here := w_pool_here.call0 c4
  obtain ⟨t10,e11,hm⟩ := Zab hm
  refine Zam <| Zaf <| Zdv ?_
  refine Zi6 ?_
  refine Zaa <| Zad <| rd_c <| Zah <| Zaa <| rd_v rfl <| Zaa <| rd_c <| Zac ?_
  refine ⟨F0,_,_,_,t10,rfl,S9.sub,w_pool_here.arg,e11,fun v15 F12 H13 c14 w17 f16 => ?_⟩
  have S18 := S9.call1 c14 w_pool_here
  have r6 := Row.mono c14.le r6
  have w5 := w5.call c14 (by intro z; exact (Ne.symm ne7) z)
  have w19 := w_pool_here.back w17
  cases (show v15 = (V.int (t10.1)) from f16)
  obtain ⟨g20,hm⟩ := Zae hm
  refine Zax <| Zac ?_
  refine rd_r1 g20 ?_
  obtain ⟨t21,e22,hm⟩ := Zab hm
  refine Zds Zg5 (Ziu (K := K) (F := F12)) e22 (fun (s23 : ((Int × Int) × (List Str))) σ H => ∃ (F : Hp) (o2 : Option V) (o3 : Option V) (o4 : Option V) (vs1 : List V),σ = [some (V.ref p_pool_here),some (V.ref p1),o2,o3,o4] ∧ Sx (fun a => a = p_pool_here ∨ a = p1) F12 H13 F H ∧ Ow (fun a => a = p_pool_here ∨ a = p1) H13 F H p_pool_here (.lst [V.int s23.1.1,V.int s23.1.2]) ∧ Ow (fun a => a = p_pool_here ∨ a = p1) H13 F H p1 (.lst vs1) ∧ Row qS K F vs1 s23.2) ?_ ?_ ?_ ?_
  ·
   intro _ _ _ _; trivial
  ·
   have S25 : Sx (fun a => a = p_pool_here ∨ a = p1) _ _ _ _ := Sx.refl S18.sub (by
    rintro a (rfl | rfl)
    ·
     rw [w19.at_]; exact (fun h => nomatch h)
    ·
     rw [w5.at_]; exact (fun h => nomatch h))
   have w26 : Ow (fun a => a = p_pool_here ∨ a = p1) H13 _ _ _ _ := ⟨w19.fr,w19.at_,.inr (Or.inl rfl)⟩
   have w27 : Ow (fun a => a = p_pool_here ∨ a = p1) H13 _ _ _ _ := ⟨w5.fr,w5.at_,.inr (Or.inr (rfl))⟩
   exact ⟨F12,_,_,_,_,rfl,S25,w26,w27,r6⟩
  ·
   rintro x28 v29 s30 c34 σ31 H32 f33 ⟨F35,o37,o38,o39,v40,rfl,S36,w41,w42,r43⟩ hm46
   unfold Zfj at hm46
   cases (show v29 = (V.int (x28)) from f33)
   obtain ⟨t47,e48,hm46⟩ := Zab hm46
   refine Zam <| Zaf <| Zak <| Zah <| Zaa <| rd_v rfl <| Zaa <| rd_c <| Zac ?_
   refine ⟨F35,_,_,_,t47,rfl,S36.sub,w41.arg,e48,fun v52 F49 H50 c51 w54 f53 => ?_⟩
   have S55 := S36.call1 c51 w41
   have r43 := Row.mono c51.le r43
   have w42 := w42.call c51 (by intro z; exact (Ne.symm ne7) z)
   have w56 := w41.back w54
   cases (show v52 = (V.int (t47.1)) from f53)
   refine Zam <| Zaf <| Zak <| Zf4 <| Zad <| rd_v rfl <| Zcz <| Zac <| Zfg rfl ?_
   refine alL (K := K) (A := qS) (xs := ([] : List Str)) S55 .nil (fun v57 F58 H59 c60 f61 => ?_)
   have S62 := S55.call0 c60
   have r43 := Row.mono c60.le r43
   obtain ⟨w56,w42⟩ := wup2 w56 w42 c60
   obtain ⟨g63,hm46⟩ := Zae hm46
   obtain ⟨g64,hm46⟩ := Zae hm46
   obtain ⟨t75,e76,hm46⟩ := Zab hm46
   refine rd_neD (D := (dL dS)) (w42.dS S62.sub dS r43) (S62.d (dL dS) f61) g63 g64 ?_
   refine rd_b ?_
   refine andV_j (fun c H' => c = V.bl t75 ∧ ∃ F',Sx P0 F58 H59 F' H') ?_ ?_ ?_
   ·
    intro b77 Q78 q79
    have e76 := if_t e76 b77
    have S80 := Sx.refl0 S62.sub
    obtain ⟨t81,e82,e76⟩ := Zab e76
    refine Zad <| Zad <| rd_v rfl <| rd_un <| rd_c <| rd_U ?_
    refine Zbp (w42.l r43).r e82 (fun u83 f84 => ?_)
    cases (show u83 = (V.str (t81)) from f84)
    refine rd_tup <| Zaa <| rd_c <| Zaa <| rd_c <| Zaa <| rd_c <| Zac <| rd_uK rfl ?_
    refine alT (K := K) (A := qS) (xs := [("<any>" : Str),("<digits>" : Str),("<word>" : Str)]) S80 (.cons rfl (.cons rfl (.cons rfl .nil))) (fun v85 F86 H87 c88 f89 => ?_)
    have S90 := S80.call0 c88
    have r43 := Row.mono c88.le r43
    obtain ⟨w56,w42⟩ := wup2 w56 w42 c88
    cases e76
    refine rd_niS (S90.t f89).q ?_
    exact q79 _ _ ⟨rfl,F86,S90⟩
   ·
    intro b77
    have e76 := if_f e76 b77
    cases e76
    have S91 := Sx.refl0 S62.sub
    exact ⟨rfl,F58,S91⟩
   rintro b95 H93 ⟨rfl,F92,c94⟩
   have S96 := S62.call0 c94
   have r43 := Row.mono c94.le r43
   obtain ⟨w56,w42⟩ := wup2 w56 w42 c94
   refine Zam <| Zal <| Zfw <| Zag <| Zad <| rd_v rfl <| rd_c <| Zax <| rd_b ?_
   refine and_p (by intro _ Q' q; refine Zag ?_; refine Zad ?_; refine rd_c ?_; refine rd_v rfl ?_; refine rd_niS (w42.l r43).r.q ?_; refine rd_b ?_; exact q) ?_
   refine if_b hm46 (fun b97 hm46 => ?_) (fun b97 hm46 => ?_)
   ·
    obtain ⟨g98,hm46⟩ := Zae hm46
    refine Zc0 <| Ze5 <| rd_v rfl <| Ze4 w42.ty <| Zaa <| rd_c <| Zac ?_
    refine ap S96 w42 r43 g98 (fun H99 c100 w101 => ?_)
    have r102 := r43.snoc (show qS.r K F92 _ ("<any>" : Str) from rfl)
    have S103 := S96.call1 c100 w42
    have w56 := w56.call c100 (by intro z; exact ne7 z)
    have r102 := Row.mono c100.le r102
    cases hm46
    exact ⟨F92,_,_,_,_,rfl,S103,w56,w101,r102⟩
   ·
    refine Zal <| Zag <| Zad <| rd_v rfl <| rd_c <| Zax <| rd_b ?_
    refine if_b hm46 (fun b104 hm46 => ?_) (fun b104 hm46 => ?_)
    ·
     obtain ⟨g105,hm46⟩ := Zae hm46
     refine Zc0 <| Ze5 <| rd_v rfl <| Ze4 w42.ty <| Zaa <| rd_c <| Zac ?_
     refine ap S96 w42 r43 g105 (fun H106 c107 w108 => ?_)
     have r109 := r43.snoc (show qS.r K F92 _ ("<digits>" : Str) from rfl)
     have S110 := S96.call1 c107 w42
     have w56 := w56.call c107 (by intro z; exact ne7 z)
     have r109 := Row.mono c107.le r109
     cases hm46
     exact ⟨F92,_,_,_,_,rfl,S110,w56,w108,r109⟩
    ·
     refine Zal <| Zkm <| Zag <| Zad <| rd_v rfl <| rd_c <| Zax <| rd_b ?_
     refine or_p (by intro _ Q' q; refine Zgz ?_; refine rd_v rfl ?_; refine rd_b ?_; exact q) ?_
     refine if_b hm46 (fun b111 hm46 => ?_) (fun b111 hm46 => ?_)
     ·
      obtain ⟨g112,hm46⟩ := Zae hm46
      refine Zc0 <| Ze5 <| rd_v rfl <| Ze4 w42.ty <| Zaa <| rd_c <| Zac ?_
      refine ap S96 w42 r43 g112 (fun H113 c114 w115 => ?_)
      have r116 := r43.snoc (show qS.r K F92 _ ("<word>" : Str) from rfl)
      have S117 := S96.call1 c114 w42
      have w56 := w56.call c114 (by intro z; exact ne7 z)
      have r116 := Row.mono c114.le r116
      cases hm46
      exact ⟨F92,_,_,_,_,rfl,S117,w56,w115,r116⟩
     ·
      obtain ⟨t118,e119,hm46⟩ := Zab hm46
      refine Zc0 <| Ze5 <| rd_v rfl <| Ze4 w42.ty <| Zaa <| Zah <| Zaa <| rd_v rfl <| Zac ?_
      refine ⟨F92,_,_,t118,rfl,S96.sub,w56.arg,e119,fun v123 F120 H121 c122 w125 f124 => ?_⟩
      have S126 := S96.call1 c122 w56
      have r43 := Row.mono c122.le r43
      have w42 := w42.call c122 (by intro z; exact (Ne.symm ne7) z)
      have w127 := w56.back w125
      cases (show v123 = (V.str (t118.1)) from f124)
      obtain ⟨g128,hm46⟩ := Zae hm46
      refine Zac ?_
      refine ap S126 w42 r43 g128 (fun H129 c130 w131 => ?_)
      have r132 := r43.snoc (show qS.r K F120 _ t118.1 from rfl)
      have S133 := S126.call1 c130 w42
      have w127 := w127.call c130 (by intro z; exact ne7 z)
      have r132 := Row.mono c130.le r132
      cases hm46
      exact ⟨F120,_,_,_,_,rfl,S133,w127,w131,r132⟩
  ·
   rintro σ134 H135 ⟨F136,o138,o139,o140,v141,rfl,S137,w142,w143,r144⟩
   have S145 := S18.call S137 (by
    rintro a (rfl | rfl)
    ·
     exact w19.mine.symm
    ·
     exact w5.mine.symm)
   have w146 : Ow (fun a => a = p_pool_here) H0 _ _ _ _ := ⟨w142.fr,w142.at_,w19.mine⟩
   have w147 : Ow (fun a => a = p_pool_here) H0 _ _ _ _ := ⟨w143.fr,w143.at_,w5.mine⟩
   obtain ⟨F148,S149,le150,f151,_,eq152⟩ := fz S145 w147 z8 r144
   have w146 := w146.fzO ne7 eq152
   cases hm
   refine Zai <| rd_v rfl ?_
   exact hQ _ _ _ S149 w146 f151
def Ziw (K : PySem.W.Frag) : Sp := fun vs H Q _ => ∃ (F : Hp) (v_self : V) (a_self : (List Str)) (r : Str),vs = [v_self] ∧ Same F H ∧ qForm.r K F v_self a_self ∧ Zgx a_self = some r ∧ ∀ v F' H',Sx P0 F H F' H' → qS.r K F' v r → Q v H'
theorem Zix : FnScope ["self"] ["self"] (defScope Zcl) := ⟨rfl,rfl,rfl,by decide +kernel,rfl,by decide +kernel,by decide +kernel⟩
theorem Zgj (T : Tx K mg) : Binds K (fdOf K ("Form",some "__str__")) ["self"] [] := FunD.bindsN T.F_Form___str__ fun _ _ _ _ _ _ us hl => match us,hl with | [_],_ => rfl
theorem Zi9 (T : Tx K mg) : FnOk P w K mg base CX0 1 (He.fAd K ("Form",some "__str__")) (fdOf K ("Form",some "__str__")) ["self"] (Ziw K) := by
 refine FunD.ok T.F_Form___str__ Zix (fun vs H0 Q E h => ?_) (fun cdv A outer s H0 vs Q E hr h => ?_)
 ·
  obtain ⟨_,_,_,_,rfl,_⟩ := h
  rfl
 ·
  obtain ⟨F0,v_self,a_self,r,rfl,hE,f_self,hm,hQ⟩ := h
  refine ⟨_,PSs.nox ((pss_one (ps_ret (Zcv (K := K) PySem.F.plainAttrs_str PySem.F.slot_str_join PySem.F.type_str_join (mt_joinKK (K := K)) pe_str (pa_cons (Zcj (pv 0) rfl) pa_nil))))),?_⟩
  have S : Sx P0 F0 H0 F0 H0 := Sx.refl0 hE
  unfold Zgx at hm
  refine Zai <| Ze5 <| rd_c <| Ze4 (Zhv) <| Zaa <| Zdw <| rd_v rfl ?_
  refine Zgc T S f_self (fun u1 f2 => ?_)
  obtain ⟨g3,hm⟩ := Zae hm
  cases hm
  refine Zac ?_
  refine rd_join (S.t f2).q g3 ?_
  exact hQ _ _ _ S rfl
theorem Zh9 (T : Tx K mg) (n : Nat) : FnOk P w K mg base CX0 (3 * n + 1) (He.fAd K ("Form",some "__str__")) (fdOf K ("Form",some "__str__")) ["self"] (Zcu n "Form" K) := by
 refine ((Zi9 T).mono (by omega)).imp fun vs H0 Q E h => ?_
 obtain ⟨F0,v,a,r,rfl,hE,f,hc,hm,hQ⟩ := h
 obtain ⟨h1,h2,h3⟩ := Zby hm
 cases a with
  | both _ _ => exact absurd (show ("Both" : Str) = "Form" from hc) (by decide)
  | either _ _ => exact absurd (show ("Either" : Str) = "Form" from hc) (by decide)
  | form a =>
  exact ⟨F0,v,a,r,rfl,hE,f,h3,hQ⟩
theorem sc_Both_str : FnScope ["self"] ["self"] (defScope Zco) := ⟨rfl,rfl,rfl,by decide +kernel,rfl,by decide +kernel,by decide +kernel⟩
theorem Zjm (T : Tx K mg) : Binds K (fdOf K ("Both",some "__str__")) ["self"] [] := FunD.bindsN T.F_Both___str__ fun _ _ _ _ _ _ us hl => match us,hl with | [_],_ => rfl
theorem okv_Both_str (T : Tx K mg) {n : Nat} (V : VM P w K mg base (3 * n + 1) "__str__" ["self"] (fun x => Zcu n x K)) : FnOk P w K mg base CX0 (3 * n + 4) (He.fAd K ("Both",some "__str__")) (fdOf K ("Both",some "__str__")) ["self"] (Zcu (n + 1) "Both" K) := by
 refine FunD.ok T.F_Both___str__ sc_Both_str (fun vs H0 Q E h => ?_) (fun cdv A outer s H0 vs Q E hr h => ?_)
 ·
  obtain ⟨_,_,_,_,rfl,_⟩ := h
  rfl
 ·
  obtain ⟨F0,v,a,r,rfl,hE,f,hc,hm,hQ⟩ := h
  obtain ⟨h1,h2,h3⟩ := Zby hm
  cases a with
  | form _ => exact absurd (show ("Form" : Str) = "Both" from hc) (by decide)
  | either _ _ => exact absurd (show ("Either" : Str) = "Both" from hc) (by decide)
  | both l r' =>
  obtain ⟨p,dx,u,w',rfl,e2,rl,rr⟩ := (show Zg2 K F0 v (.both l r') from f)
  replace rl : qPat.r K F0 u l := rl
  replace rr : qPat.r K F0 w' r' := rr
  have hl : l.ht ≤ n ∧ r'.ht ≤ n := by
   have h1 : max l.ht r'.ht + 1 ≤ n + 1 := h1
   omega
  have hf : l.forms.length + r'.forms.length ≤ 16 := by
   have h2 : (l.forms ++ r'.forms).length ≤ 16 := h2
   rw [List.length_append] at h2
   exact h2
  obtain ⟨x,ex,h3⟩ := Zab (show (l.str.bind fun x => r'.str.bind fun y => gd (Zet (" & " : Str) x y) (some (Zed (" & " : Str) x y))) = some r from h3)
  obtain ⟨y,ey,h3⟩ := Zab h3
  obtain ⟨g,h3⟩ := Zae h3
  cases h3
  obtain ⟨g1,g2,g3,g4,g5,g6,g7⟩ := Zje g
  refine ⟨_,PSs.nox (pss_one (ps_ret (pe_joined (.cons pe_str (.cons (pe_fmt (pe_callTy (r := Zkp P w K mg base (3 * n + 1)) (Zg6 (hr.mono (by omega))) (by rfl) T.n_str (by decide +kernel) (pa_cons (Zcj (pv 0) rfl) pa_nil))) (.cons pe_str (.cons (pe_fmt (pe_callTy (r := Zkp P w K mg base (3 * n + 1)) (Zg6 (hr.mono (by omega))) (by rfl) T.n_str (by decide +kernel) (pa_cons (Zcj (pv 0) rfl) pa_nil))) (.cons pe_str .nil)))))))),?_⟩
  have S : Sx P0 F0 H0 F0 H0 := Sx.refl0 hE
  refine Zai ?_
  refine Zjq ?_
  refine rd_c ?_
  refine Zjz g3 ?_
  refine Zjq ?_
  refine rd_fm ?_
  refine Zay <| Zaa <| Zdw <| rd_v rfl ?_
  refine Zfs (S.sub _ _ e2) T.c_Both T.na_Both_left (by rfl) ?_
  refine Zac ?_
  refine V.strW S rl ?_
  refine ⟨F0,_,_,_,rfl,S.sub,rl,rfl,(Zb8 hl.1 (by omega)).trans ex,fun v1 F1 H1 c1 f1 => ?_⟩
  cases (show v1 = .str x from f1)
  have S1 := S.call0 c1
  have rr := rr.up c1
  refine Zi3 ?_
  refine fm_at g1 ?_
  refine Zjz g4 ?_
  refine Zjq ?_
  refine rd_c ?_
  refine Zjz g5 ?_
  refine Zjq ?_
  refine rd_fm ?_
  refine Zay <| Zaa <| Zdw <| rd_v rfl ?_
  refine Zfs (S1.sub _ _ (S1.le _ _ e2)) T.c_Both T.na_Both_right (by rfl) ?_
  refine Zac ?_
  refine V.strW S1 rr ?_
  refine ⟨F1,_,_,_,rfl,S1.sub,rr,rfl,(Zb8 hl.2 (by omega)).trans ey,fun v2 F2 H2 c2 f2 => ?_⟩
  cases (show v2 = .str y from f2)
  have S2 := S1.call0 c2
  refine Zi3 ?_
  refine fm_at g2 ?_
  refine Zjz g6 ?_
  refine Zjq ?_
  refine rd_c ?_
  refine Zjz g7 ?_
  refine rd_js0 ?_
  exact hQ _ _ _ S2 rfl
theorem Zkk : FnScope ["self"] ["self"] (defScope Zbw) := ⟨rfl,rfl,rfl,by decide +kernel,rfl,by decide +kernel,by decide +kernel⟩
theorem Zhr (T : Tx K mg) : Binds K (fdOf K ("Either",some "__str__")) ["self"] [] := FunD.bindsN T.F_Either___str__ fun _ _ _ _ _ _ us hl => match us,hl with | [_],_ => rfl
theorem Zjs (T : Tx K mg) {n : Nat} (V : VM P w K mg base (3 * n + 1) "__str__" ["self"] (fun x => Zcu n x K)) : FnOk P w K mg base CX0 (3 * n + 4) (He.fAd K ("Either",some "__str__")) (fdOf K ("Either",some "__str__")) ["self"] (Zcu (n + 1) "Either" K) := by
 refine FunD.ok T.F_Either___str__ Zkk (fun vs H0 Q E h => ?_) (fun cdv A outer s H0 vs Q E hr h => ?_)
 ·
  obtain ⟨_,_,_,_,rfl,_⟩ := h
  rfl
 ·
  obtain ⟨F0,v,a,r,rfl,hE,f,hc,hm,hQ⟩ := h
  obtain ⟨h1,h2,h3⟩ := Zby hm
  cases a with
  | form _ => exact absurd (show ("Form" : Str) = "Either" from hc) (by decide)
  | both _ _ => exact absurd (show ("Both" : Str) = "Either" from hc) (by decide)
  | either l r' =>
  obtain ⟨p,dx,u,w',rfl,e2,rl,rr⟩ := (show Zg2 K F0 v (.either l r') from f)
  replace rl : qPat.r K F0 u l := rl
  replace rr : qPat.r K F0 w' r' := rr
  have hl : l.ht ≤ n ∧ r'.ht ≤ n := by
   have h1 : max l.ht r'.ht + 1 ≤ n + 1 := h1
   omega
  have hf : l.forms.length + r'.forms.length ≤ 16 := by
   have h2 : (l.forms ++ r'.forms).length ≤ 16 := h2
   rw [List.length_append] at h2
   exact h2
  obtain ⟨x,ex,h3⟩ := Zab (show (l.str.bind fun x => r'.str.bind fun y => gd (Zet (" | " : Str) x y) (some (Zed (" | " : Str) x y))) = some r from h3)
  obtain ⟨y,ey,h3⟩ := Zab h3
  obtain ⟨g,h3⟩ := Zae h3
  cases h3
  obtain ⟨g1,g2,g3,g4,g5,g6,g7⟩ := Zje g
  refine ⟨_,PSs.nox (pss_one (ps_ret (pe_joined (.cons pe_str (.cons (pe_fmt (pe_callTy (r := Zkp P w K mg base (3 * n + 1)) (Zg6 (hr.mono (by omega))) (by rfl) T.n_str (by decide +kernel) (pa_cons (Zcj (pv 0) rfl) pa_nil))) (.cons pe_str (.cons (pe_fmt (pe_callTy (r := Zkp P w K mg base (3 * n + 1)) (Zg6 (hr.mono (by omega))) (by rfl) T.n_str (by decide +kernel) (pa_cons (Zcj (pv 0) rfl) pa_nil))) (.cons pe_str .nil)))))))),?_⟩
  have S : Sx P0 F0 H0 F0 H0 := Sx.refl0 hE
  refine Zai ?_
  refine Zjq ?_
  refine rd_c ?_
  refine Zjz g3 ?_
  refine Zjq ?_
  refine rd_fm ?_
  refine Zay <| Zaa <| Zdw <| rd_v rfl ?_
  refine Zfs (S.sub _ _ e2) T.c_Either T.na_Either_left (by rfl) ?_
  refine Zac ?_
  refine V.strW S rl ?_
  refine ⟨F0,_,_,_,rfl,S.sub,rl,rfl,(Zb8 hl.1 (by omega)).trans ex,fun v1 F1 H1 c1 f1 => ?_⟩
  cases (show v1 = .str x from f1)
  have S1 := S.call0 c1
  have rr := rr.up c1
  refine Zi3 ?_
  refine fm_at g1 ?_
  refine Zjz g4 ?_
  refine Zjq ?_
  refine rd_c ?_
  refine Zjz g5 ?_
  refine Zjq ?_
  refine rd_fm ?_
  refine Zay <| Zaa <| Zdw <| rd_v rfl ?_
  refine Zfs (S1.sub _ _ (S1.le _ _ e2)) T.c_Either T.na_Either_right (by rfl) ?_
  refine Zac ?_
  refine V.strW S1 rr ?_
  refine ⟨F1,_,_,_,rfl,S1.sub,rr,rfl,(Zb8 hl.2 (by omega)).trans ey,fun v2 F2 H2 c2 f2 => ?_⟩
  cases (show v2 = .str y from f2)
  have S2 := S1.call0 c2
  refine Zi3 ?_
  refine fm_at g2 ?_
  refine Zjz g6 ?_
  refine Zjq ?_
  refine rd_c ?_
  refine Zjz g7 ?_
  refine rd_js0 ?_
  exact hQ _ _ _ S2 rfl
theorem Zh8 {C : Str} (hC : C = "Both" ∨ C = "Either") : FnOk P w K mg base CX0 1 (He.fAd K (C,some "__str__")) (fdOf K (C,some "__str__")) ["self"] (Zcu 0 C K) := by
 have no : ∀ vs H Q E,¬ Zcu 0 C K vs H Q E := by
  intro vs H Q E h
  obtain ⟨_,_,a,_,_,_,_,hc,hm,_⟩ := h
  obtain ⟨h1,_,_⟩ := Zby hm
  cases a with
  | form _ =>
   subst hc
   rcases hC with h | h
   ·
    exact absurd (show ("Form" : Str) = "Both" from h) (by decide)
   ·
    exact absurd (show ("Form" : Str) = "Either" from h) (by decide)
  | both l r => exact absurd (show max l.ht r.ht + 1 ≤ 0 from h1) (by omega)
  | either l r => exact absurd (show max l.ht r.ht + 1 ≤ 0 from h1) (by omega)
 exact ⟨fun vs H Q E h => absurd h (no vs H Q E),fun A outer s H args us vs Q E hr he hb hv h => absurd h (no vs H Q E)⟩
theorem vm_str (T : Tx K mg) : ∀ n,VM P w K mg base (3 * n + 1) "__str__" ["self"] (fun x => Zcu n x K)
 | 0 => ⟨fun x hx => by
  rcases hx with rfl | rfl | rfl
  ·
   exact ⟨T.c_Form,T.me_Form___str__,Zh9 T 0,Zgj T⟩
  ·
   exact ⟨T.c_Both,T.me_Both___str__,Zh8 (.inl rfl),Zjm T⟩
  ·
   exact ⟨T.c_Either,T.me_Either___str__,Zh8 (.inr rfl),Zhr T⟩⟩
 | n + 1 => ⟨fun x hx => by
  have V := vm_str T n
  rcases hx with rfl | rfl | rfl
  ·
   exact ⟨T.c_Form,T.me_Form___str__,Zh9 T (n + 1),Zgj T⟩
  ·
   exact ⟨T.c_Both,T.me_Both___str__,okv_Both_str T V,Zjm T⟩
  ·
   exact ⟨T.c_Either,T.me_Either___str__,Zjs T V,Zhr T⟩⟩
def sp_law_shown (n : Nat) (K : PySem.W.Frag) : Sp := fun vs H Q _ => ∃ (F : Hp) (v_shape_here : V) (a_shape_here : Shp) (v_drawn : V) (a_drawn : (List (List Str))) (r : Str),vs = [v_shape_here,v_drawn] ∧ Same F H ∧ qSh.r K F v_shape_here a_shape_here ∧ (qL (qL qS)).r K F v_drawn a_drawn ∧ Zcr n a_shape_here a_drawn = some r ∧ ∀ v F' H',Sx P0 F H F' H' → qS.r K F' v r → Q v H'
theorem Zh6 : FnScope ["_law_shape_here","_law_drawn"] ["_law_shape_here","_law_drawn"] (defScope Zd7) := ⟨rfl,rfl,rfl,by decide +kernel,rfl,by decide +kernel,by decide +kernel⟩
theorem Zgg (T : Tx K mg) : Binds K (fdOf K ("_law_shown",none)) ["_law_shape_here","_law_drawn"] [] := FunD.bindsN T.F_law_shown fun _ _ _ _ _ _ us hl => match us,hl with | [_,_],_ => rfl
theorem ok_law_shown (T : Tx K mg) : ∀ n : Nat,FnOk P w K mg base CX0 (n + 0 + 1) (He.ga K "_law_shown") (fdOf K ("_law_shown",none)) ["_law_shape_here","_law_drawn"] (sp_law_shown n K) := by
 intro n
 induction n with
 | zero =>
  refine FunD.ok T.F_law_shown Zh6 (fun vs H0 Q E h => ?_) (fun cdv A outer s H0 vs Q E hr h => ?_)
  ·
   obtain ⟨_,_,_,_,_,_,rfl,_⟩ := h
   rfl
  ·
   obtain ⟨F0,v_shape_here,a_shape_here,v_drawn,a_drawn,r,rfl,hE,f_shape_here,f_drawn,hm,hQ⟩ := h
   unfold Zcr at hm
   cases hm
 | succ n ih =>
  refine FunD.ok T.F_law_shown Zh6 (fun vs H0 Q E h => ?_) (fun cdv A outer s H0 vs Q E hr h => ?_)
  ·
   obtain ⟨_,_,_,_,_,_,rfl,_⟩ := h
   rfl
  ·
   obtain ⟨F0,v_shape_here,a_shape_here,v_drawn,a_drawn,r,rfl,hE,f_shape_here,f_drawn,hm,hQ⟩ := h
   refine ⟨_,PSs.nox ((pss_cons (ps_if (pt_cmpR Zc5 (pe_callB (r := Zc9 K) Za3 (by rfl) T.n_len (by decide +kernel) (pa_cons (pv 0) pa_nil)) pe_int (nomark _)) (pss_one (ps_ret (Zcv (K := K) PySem.F.plainAttrs_str PySem.F.slot_str_join PySem.F.type_str_join (mt_joinKK (K := K)) pe_str (pa_cons (pe_ix (r := rIxL K) ix_list (pv 1) (pe_ix (r := rIxL K) ix_list (pv 0) pe_int (fun _ _ => rfl)) (fun _ _ => rfl)) pa_nil)))) pss_nil) (pss_one (ps_ret (pe_op Zb9 (pe_op Zb9 (pe_op Zb9 (pe_op Zb9 (pe_op Zb9 (pe_op Zb9 pe_str (pe_call ih (hr.mono (by omega)) (by rfl) T.g_law_shown T.F_law_shown.kp (Zgg T) .nil pass0 (pa_cons (pe_ix (r := rIxL K) ix_list (pv 0) pe_int (fun _ _ => rfl)) (pa_cons (pv 1) pa_nil)))) pe_str) (pe_ix (r := rIxL K) ix_list (pv 0) pe_int (fun _ _ => rfl))) pe_str) (pe_call ih (hr.mono (by omega)) (by rfl) T.g_law_shown T.F_law_shown.kp (Zgg T) .nil pass0 (pa_cons (pe_ix (r := rIxL K) ix_list (pv 0) pe_int (fun _ _ => rfl)) (pa_cons (pv 1) pa_nil)))) pe_str))))),?_⟩
   have S : Sx P0 F0 H0 F0 H0 := Sx.refl0 hE
   unfold Zcr at hm
   refine Zaf <| Zal <| Zag <| Zad <| Zay <| Zaa <| rd_v rfl <| Zac ?_
   refine Zkn S f_shape_here ?_
   refine rd_c <| Zax <| rd_b ?_
   refine if_b hm (fun b1 hm => ?_) (fun b1 hm => ?_)
   ·
    obtain ⟨t2,e3,hm⟩ := Zab hm
    obtain ⟨t4,e5,hm⟩ := Zab hm
    refine Zai <| Ze5 <| rd_c <| Ze4 (Zhv) <| Zaa <| Zad <| rd_v rfl <| Zad <| rd_v rfl <| rd_c ?_
    refine rd_shN S f_shape_here e3 ?_
    refine Zbp (S.l f_drawn).r e5 (fun u6 f7 => ?_)
    obtain ⟨g8,hm⟩ := Zae hm
    cases hm
    refine Zac ?_
    refine rd_join (S.l f7).r.q g8 ?_
    exact hQ _ _ _ S rfl
   ·
    obtain ⟨t9,e10,hm⟩ := Zab hm
    refine Zaj <| Zai <| Zad <| Zad <| Zad <| Zad <| Zad <| Zad <| rd_c <| Zah <| Zaa <| Zad <| rd_v rfl <| rd_c ?_
    refine rd_shL S f_shape_here e10 (fun u11 f12 => ?_)
    obtain ⟨t13,e14,hm⟩ := Zab hm
    refine Zaa <| rd_v rfl <| Zac ?_
    refine ⟨F0,_,_,_,_,t13,rfl,S.sub,f12,f_drawn,e14,fun v18 F15 H16 c17 f19 => ?_⟩
    have S20 := S.call0 c17
    obtain ⟨f_shape_here,f_drawn⟩ := up2 f_shape_here f_drawn c17
    cases (show v18 = (V.str (t13)) from f19)
    obtain ⟨g21,hm⟩ := Zae hm
    obtain ⟨g22,hm⟩ := Zae hm
    obtain ⟨t23,e24,hm⟩ := Zab hm
    obtain ⟨g25,hm⟩ := Zae hm
    obtain ⟨g26,hm⟩ := Zae hm
    obtain ⟨t27,e28,hm⟩ := Zab hm
    refine Zb7 g21 ?_
    refine rd_c ?_
    refine Zb7 g22 ?_
    refine Zad <| rd_v rfl <| rd_c ?_
    refine rd_shO S20 f_shape_here e24 ?_
    refine Zb7 g25 ?_
    refine rd_c ?_
    refine Zb7 g26 ?_
    refine Zah <| Zaa <| Zad <| rd_v rfl <| rd_c ?_
    refine rd_shR S20 f_shape_here e28 (fun u29 f30 => ?_)
    obtain ⟨t31,e32,hm⟩ := Zab hm
    refine Zaa <| rd_v rfl <| Zac ?_
    refine ⟨F15,_,_,_,_,t31,rfl,S20.sub,f30,f_drawn,e32,fun v36 F33 H34 c35 f37 => ?_⟩
    have S38 := S20.call0 c35
    obtain ⟨f_shape_here,f_drawn⟩ := up2 f_shape_here f_drawn c35
    cases (show v36 = (V.str (t31)) from f37)
    obtain ⟨g39,hm⟩ := Zae hm
    obtain ⟨g40,hm⟩ := Zae hm
    cases hm
    refine Zb7 g39 ?_
    refine rd_c ?_
    refine Zb7 g40 ?_
    exact hQ _ _ _ S38 rfl
def sp_middle_of (K : PySem.W.Frag) : Sp := fun vs H Q _ => ∃ (F : Hp) (a_text : Str) (r : (Option Int)),vs = [(V.str (a_text))] ∧ Same F H ∧ Zea a_text = some r ∧ ∀ v F' H',Sx P0 F H F' H' → (qO qI).r K F' v r → Q v H'
theorem sc_middle_of : FnScope ["text","depth","found","at","sign"] ["text"] (defScope Zd5) := ⟨rfl,rfl,rfl,by decide +kernel,rfl,by decide +kernel,by decide +kernel⟩
theorem bn_middle_of (T : Tx K mg) : Binds K (fdOf K ("middle_of",none)) ["text"] [] := FunD.bindsN T.F_middle_of fun _ _ _ _ _ _ us hl => match us,hl with | [_],_ => rfl
theorem ok_middle_of (T : Tx K mg) : FnOk P w K mg base CX0 1 (He.ga K "middle_of") (fdOf K ("middle_of",none)) ["text"] (sp_middle_of K) := by
 refine FunD.ok T.F_middle_of sc_middle_of (fun vs H0 Q E h => ?_) (fun cdv A outer s H0 vs Q E hr h => ?_)
 ·
  obtain ⟨_,_,_,rfl,_⟩ := h
  rfl
 ·
  obtain ⟨F0,a_text,r,rfl,hE,hm,hQ⟩ := h
  refine ⟨_,PSs.nox ((pss_cons (ps_set (i := 1) sc_middle_of.nd rfl (dk rfl) pe_int) (pss_cons (ps_set (i := 2) sc_middle_of.nd rfl (dk rfl) (pe_lst pa_nil)) (pss_cons (ps_for PassesOwn.never rfl (pi_enumS (by rfl) T.n_enumerate (pa_cons (pv 0) pa_nil)) (pg_tupK (n := 2) rfl (pgs_cons (pg_name (i := 3) sc_middle_of.nd rfl (dk rfl)) (pgs_cons (pg_name (i := 4) sc_middle_of.nd rfl (dk rfl)) pgs_nil))) (pss_one (ps_if (pt_cmpR Zb1 (pv 4) pe_str (nomark _)) (pss_one (ps_aug (i := 1) sc_middle_of.nd rfl (dk rfl) pe_int ip_add)) (pss_one (ps_if (pt_cmpR Zb1 (pv 4) pe_str (nomark _)) (pss_one (ps_aug (i := 1) sc_middle_of.nd rfl (dk rfl) pe_int ip_sub)) (pss_one (ps_if (PW.pt (pw_and (pt_cmpR Zj4 (pv 4) pe_str rfl) (pw_and1 (pt_cmpR Zc5 (pv 1) pe_int (nomark _))))) (pss_one (ps_expr (Zcv (K := K) PySem.F.plainAttrs_list PySem.F.slot_list_append PySem.F.type_list_append mt_append (pv 2) (pa_cons (pv 3) pa_nil)))) pss_nil))))))) (pss_one (ps_ret (pe_ifExp (pt_cmpR Zc5 (pe_callB (r := Zc9 K) Za3 (by rfl) T.n_len (by decide +kernel) (pa_cons (pv 2) pa_nil)) pe_int (nomark _)) (pe_ix (r := rIxL K) ix_list (pv 2) pe_int (fun _ _ => rfl)) pe_non))))))),?_⟩
  have S : Sx P0 F0 H0 F0 H0 := Sx.refl0 hE
  unfold Zea at hm
  refine Zaf <| Zak <| rd_c <| Zam <| Zaf <| Zak <| Zcz <| Zac <| Zfg rfl ?_
  refine al S (fun p1 H2 np3 c4 w5 => ?_)
  have r6 : Row qI K F0 [] ([] : List Int) := .nil
  have z7 := S.free0 np3
  have S8 := S.call0 c4
  refine Zam <| Zaf <| Zdv ?_
  refine rd_iES ?_
  refine Zaa <| rd_v rfl <| Zac ?_
  refine rd_wES ?_
  obtain ⟨t9,e10,hm⟩ := Zab hm
  refine rd_forS2 feedsES (typedES (K := K) (F := F0)) e10 (fun (s11 : ((List Int) × Int)) σ H => ∃ (F : Hp) (o3 : Option V) (o4 : Option V) (vs0 : List V),σ = [some (V.str (a_text)),some (V.int (s11.2)),some (V.ref p1),o3,o4] ∧ Sx (fun a => a = p1) F0 H2 F H ∧ Ow (fun a => a = p1) H2 F H p1 (.lst vs0) ∧ Row qI K F vs0 s11.1) ?_ ?_ ?_ ?_
  ·
   intro _ _ _ _; trivial
  ·
   have S13 : Sx (fun a => a = p1) _ _ _ _ := Sx.refl S8.sub (fun a z => by rw [z,w5.at_]; exact (fun h => nomatch h))
   have w14 : Ow (fun a => a = p1) H2 _ _ _ _ := ⟨w5.fr,w5.at_,.inr (rfl)⟩
   exact ⟨F0,_,_,_,rfl,S13,w14,r6⟩
  ·
   rintro x15 u32 w33 s17 c21 σ18 H19 fu34 fw35 ⟨F22,o24,o25,v26,rfl,S23,w27,r28⟩ hm31
   unfold Zau at hm31
   refine alE (K := K) S23 (fun T36 F37 H38 c39 h40 => ?_)
   have S41 := S23.call0 c39
   have r28 := Row.mono c39.le r28
   have w27 := w27.call0 c39
   cases (show u32 = (V.int (x15.1)) from fu34)
   cases (show w33 = (V.str (x15.2)) from fw35)
   refine rd_gt2 (Zdu S41.sub h40) ?_
   refine rd_gc ?_
   refine Zam ?_
   refine rd_gc ?_
   refine Zam ?_
   refine rd_gl ?_
   refine Zal <| Zag <| Zad <| rd_v rfl <| rd_c <| Zc4 <| rd_b ?_
   refine if_b hm31 (fun b42 hm31 => ?_) (fun b42 hm31 => ?_)
   ·
    cases hm31
    refine rd_aug rfl ?_
    refine rd_c ?_
    refine rd_ipI ?_
    exact ⟨F37,_,_,_,rfl,S41,w27,r28⟩
   ·
    refine Zal <| Zag <| Zad <| rd_v rfl <| rd_c <| Zc4 <| rd_b ?_
    refine if_b hm31 (fun b43 hm31 => ?_) (fun b43 hm31 => ?_)
    ·
     cases hm31
     refine rd_aug rfl ?_
     refine rd_c ?_
     refine rd_ipI ?_
     exact ⟨F37,_,_,_,rfl,S41,w27,r28⟩
    ·
     refine Zal <| Zfw <| Zag <| Zad <| rd_v rfl <| rd_c ?_
     refine Zh0 ?_
     refine rd_b ?_
     refine and_p (by intro _ Q' q; refine Zag ?_; refine Zad ?_; refine rd_v rfl ?_; refine rd_c ?_; refine Zax ?_; refine rd_b ?_; exact q) ?_
     refine if_b hm31 (fun b44 hm31 => ?_) (fun b44 hm31 => ?_)
     ·
      obtain ⟨g45,hm31⟩ := Zae hm31
      refine Zc0 <| Ze5 <| rd_v rfl <| Ze4 w27.ty <| Zaa <| rd_v rfl <| Zac ?_
      refine ap S41 w27 r28 g45 (fun H46 c47 w48 => ?_)
      have r49 := r28.snoc (show qI.r K F37 _ x15.1 from rfl)
      have S50 := S41.call1 c47 w27
      have r49 := Row.mono c47.le r49
      cases hm31
      exact ⟨F37,_,_,_,rfl,S50,w48,r49⟩
     ·
      cases hm31
      refine Zaj ?_
      exact ⟨F37,_,_,_,rfl,S41,w27,r28⟩
  ·
   rintro σ51 H52 ⟨F53,o55,o56,v57,rfl,S54,w58,r59⟩
   have S60 := S8.call1 S54 w5
   have w61 : Ow P0 H0 _ _ _ _ := ⟨w58.fr,w58.at_,w5.mine⟩
   obtain ⟨t62,e63,hm⟩ := Zab hm
   refine Zai ?_
   refine rd_ifE ?_
   refine Zag <| Zad <| Zay <| Zaa <| rd_v rfl <| Zac ?_
   refine Zbi (w61.l r59).r.q ?_
   refine rd_c <| Zax <| rd_b ?_
   refine ifE_j (fun c H' => ∃ F',(qO qI).r K F' c t62 ∧ Sx P0 F53 H52 F' H') ?_ ?_ ?_
   ·
    intro b64 Q65 q66
    have hm67 := if_t e63 b64
    have S68 := Sx.refl0 S60.sub
    obtain ⟨t69,e70,hm67⟩ := Zab hm67
    refine Zad <| rd_v rfl <| rd_c ?_
    refine Zbp (w61.l r59).r e70 (fun u71 f72 => ?_)
    cases (show u71 = (V.int (t69)) from f72)
    have f73 : (qO qI).r K F53 (V.int (t69)) (some t69) := (show (qO qI).r K F53 (V.int (t69)) (some t69) from rfl)
    cases hm67
    exact q66 _ _ ⟨F53,f73,S68⟩
   ·
    intro b74 Q75 q76
    have hm77 := if_f e63 b74
    have S78 := Sx.refl0 S60.sub
    have f79 : (qO qI).r K F53 V.non none := (show (qO qI).r K F53 V.non none from rfl)
    cases hm77
    refine rd_c ?_
    exact q76 _ _ ⟨F53,f79,S78⟩
   rintro v83 H81 ⟨F80,f84,c82⟩
   have S85 := S60.call0 c82
   have r59 := Row.mono c82.le r59
   have w61 := w61.call0 c82
   cases hm
   exact hQ _ _ _ S85 f84
def Zkg (K : PySem.W.Frag) : Sp := fun vs H Q _ => ∃ (F : Hp) (v_self : V) (a_self : (List Str)) (r : (List (List Str))),vs = [v_self] ∧ Same F H ∧ qForm.r K F v_self a_self ∧ Zib a_self = some r ∧ ∀ v F' H',Sx P0 F H F' H' → (qL qForm).r K F' v r → Q v H'
theorem Zkj : FnScope ["self"] ["self"] (defScope Zdm) := ⟨rfl,rfl,rfl,by decide +kernel,rfl,by decide +kernel,by decide +kernel⟩
theorem Zhq (T : Tx K mg) : Binds K (fdOf K ("Form",some "forms")) ["self"] [] := FunD.bindsN T.F_Form_forms fun _ _ _ _ _ _ us hl => match us,hl with | [_],_ => rfl
theorem Zku (T : Tx K mg) : FnOk P w K mg base CX0 1 (He.fAd K ("Form",some "forms")) (fdOf K ("Form",some "forms")) ["self"] (Zkg K) := by
 refine FunD.ok T.F_Form_forms Zkj (fun vs H0 Q E h => ?_) (fun cdv A outer s H0 vs Q E hr h => ?_)
 ·
  obtain ⟨_,_,_,_,rfl,_⟩ := h
  rfl
 ·
  obtain ⟨F0,v_self,a_self,r,rfl,hE,f_self,hm,hQ⟩ := h
  refine ⟨_,PSs.nox ((pss_one (ps_ret (pe_lst (pa_cons (pv 0) pa_nil))))),?_⟩
  have S : Sx P0 F0 H0 F0 H0 := Sx.refl0 hE
  unfold Zib at hm
  refine Zai <| Zcz <| Zaa <| rd_v rfl <| Zac <| Zfg rfl ?_
  refine alL (K := K) (A := qForm) (xs := [a_self]) S (.cons f_self .nil) (fun v1 F2 H3 c4 f5 => ?_)
  have S6 := S.call0 c4
  have f_self := f_self.up c4
  cases hm
  exact hQ _ _ _ S6 f5
theorem Zgv (T : Tx K mg) (n : Nat) : FnOk P w K mg base CX0 (n + 1) (He.fAd K ("Form",some "forms")) (fdOf K ("Form",some "forms")) ["self"] (Za4 n "Form" K) := by
 refine ((Zku T).mono (by omega)).imp fun vs H0 Q E h => ?_
 obtain ⟨F0,v,a,r,rfl,hE,f,hc,hm,hQ⟩ := h
 obtain ⟨h1,h2,h3⟩ := Zby hm
 cases h3
 cases a with
  | both _ _ => exact absurd (show ("Both" : Str) = "Form" from hc) (by decide)
  | either _ _ => exact absurd (show ("Either" : Str) = "Form" from hc) (by decide)
  | form a =>
  exact ⟨F0,v,a,_,rfl,hE,f,rfl,hQ⟩
theorem Zkl : FnScope ["self"] ["self"] (defScope Zdo) := ⟨rfl,rfl,rfl,by decide +kernel,rfl,by decide +kernel,by decide +kernel⟩
theorem Zhu (T : Tx K mg) : Binds K (fdOf K ("Both",some "forms")) ["self"] [] := FunD.bindsN T.F_Both_forms fun _ _ _ _ _ _ us hl => match us,hl with | [_],_ => rfl
theorem Zju (T : Tx K mg) {n : Nat} (V : VM P w K mg base (n + 1) "forms" ["self"] (fun x => Za4 n x K)) : FnOk P w K mg base CX0 (n + 2) (He.fAd K ("Both",some "forms")) (fdOf K ("Both",some "forms")) ["self"] (Za4 (n + 1) "Both" K) := by
 refine FunD.ok T.F_Both_forms Zkl (fun vs H0 Q E h => ?_) (fun cdv A outer s H0 vs Q E hr h => ?_)
 ·
  obtain ⟨_,_,_,_,rfl,_⟩ := h
  rfl
 ·
  obtain ⟨F0,v,a,r,rfl,hE,f,hc,hm,hQ⟩ := h
  obtain ⟨h1,h2,h3⟩ := Zby hm
  cases h3
  cases a with
  | form _ => exact absurd (show ("Form" : Str) = "Both" from hc) (by decide)
  | either _ _ => exact absurd (show ("Either" : Str) = "Both" from hc) (by decide)
  | both l r' =>
  obtain ⟨p,dx,u,w',rfl,e2,rl,rr⟩ := (show Zg2 K F0 v (.both l r') from f)
  replace rl : qPat.r K F0 u l := rl
  replace rr : qPat.r K F0 w' r' := rr
  have hl : l.ht ≤ n ∧ r'.ht ≤ n := by
   have h1 : max l.ht r'.ht + 1 ≤ n + 1 := h1
   omega
  have hf : l.forms.length + r'.forms.length ≤ 16 := by
   have h2 : (l.forms ++ r'.forms).length ≤ 16 := h2
   rw [List.length_append] at h2
   exact h2
  refine ⟨_,PSs.nox (pss_one (ps_ret (pe_op op_cat (Zbx (E := E0) (Zcj (pv 0) rfl)) (Zbx (E := E0) (Zcj (pv 0) rfl))))),?_⟩
  have S : Sx P0 F0 H0 F0 H0 := Sx.refl0 hE
  refine Zai <| Zad ?_
  refine Zbe ?_
  refine Zdw <| rd_v rfl ?_
  refine Zfs (S.sub _ _ e2) T.c_Both T.na_Both_left (by rfl) ?_
  refine V.call (hr.mono (by omega)) S rl (kt := ?_)
  refine Zac ?_
  refine ⟨F0,_,_,_,rfl,S.sub,rl,rfl,Zb8 hl.1 (by omega),fun v1 F1 H1 c1 f1 => ?_⟩
  have S1 := S.call0 c1
  have rr := rr.up c1
  refine Zbe ?_
  refine Zdw <| rd_v rfl ?_
  refine Zfs (S1.sub _ _ (S1.le _ _ e2)) T.c_Both T.na_Both_right (by rfl) ?_
  refine V.call (hr.mono (by omega)) S1 rr (kt := ?_)
  refine Zac ?_
  refine ⟨F1,_,_,_,rfl,S1.sub,rr,rfl,Zb8 hl.2 (by omega),fun v2 F2 H2 c2 f2 => ?_⟩
  have S2 := S1.call0 c2
  have f1 := f1.up c2
  refine rd_cat (S2.l f1) (S2.l f2) (decide_eq_true (Nat.le_trans hf (by rw [sizeLine_eq]; decide))) ?_
  refine alL' S2 (fun v3 F3 H3 c3 f3 => ?_)
  exact hQ _ _ _ (S2.call0 c3) f3
theorem Ziy : FnScope ["self"] ["self"] (defScope Zcn) := ⟨rfl,rfl,rfl,by decide +kernel,rfl,by decide +kernel,by decide +kernel⟩
theorem Zgl (T : Tx K mg) : Binds K (fdOf K ("Either",some "forms")) ["self"] [] := FunD.bindsN T.F_Either_forms fun _ _ _ _ _ _ us hl => match us,hl with | [_],_ => rfl
theorem Zim (T : Tx K mg) {n : Nat} (V : VM P w K mg base (n + 1) "forms" ["self"] (fun x => Za4 n x K)) : FnOk P w K mg base CX0 (n + 2) (He.fAd K ("Either",some "forms")) (fdOf K ("Either",some "forms")) ["self"] (Za4 (n + 1) "Either" K) := by
 refine FunD.ok T.F_Either_forms Ziy (fun vs H0 Q E h => ?_) (fun cdv A outer s H0 vs Q E hr h => ?_)
 ·
  obtain ⟨_,_,_,_,rfl,_⟩ := h
  rfl
 ·
  obtain ⟨F0,v,a,r,rfl,hE,f,hc,hm,hQ⟩ := h
  obtain ⟨h1,h2,h3⟩ := Zby hm
  cases h3
  cases a with
  | form _ => exact absurd (show ("Form" : Str) = "Either" from hc) (by decide)
  | both _ _ => exact absurd (show ("Both" : Str) = "Either" from hc) (by decide)
  | either l r' =>
  obtain ⟨p,dx,u,w',rfl,e2,rl,rr⟩ := (show Zg2 K F0 v (.either l r') from f)
  replace rl : qPat.r K F0 u l := rl
  replace rr : qPat.r K F0 w' r' := rr
  have hl : l.ht ≤ n ∧ r'.ht ≤ n := by
   have h1 : max l.ht r'.ht + 1 ≤ n + 1 := h1
   omega
  have hf : l.forms.length + r'.forms.length ≤ 16 := by
   have h2 : (l.forms ++ r'.forms).length ≤ 16 := h2
   rw [List.length_append] at h2
   exact h2
  refine ⟨_,PSs.nox (pss_one (ps_ret (pe_op op_cat (Zbx (E := E0) (Zcj (pv 0) rfl)) (Zbx (E := E0) (Zcj (pv 0) rfl))))),?_⟩
  have S : Sx P0 F0 H0 F0 H0 := Sx.refl0 hE
  refine Zai <| Zad ?_
  refine Zbe ?_
  refine Zdw <| rd_v rfl ?_
  refine Zfs (S.sub _ _ e2) T.c_Either T.na_Either_left (by rfl) ?_
  refine V.call (hr.mono (by omega)) S rl (kt := ?_)
  refine Zac ?_
  refine ⟨F0,_,_,_,rfl,S.sub,rl,rfl,Zb8 hl.1 (by omega),fun v1 F1 H1 c1 f1 => ?_⟩
  have S1 := S.call0 c1
  have rr := rr.up c1
  refine Zbe ?_
  refine Zdw <| rd_v rfl ?_
  refine Zfs (S1.sub _ _ (S1.le _ _ e2)) T.c_Either T.na_Either_right (by rfl) ?_
  refine V.call (hr.mono (by omega)) S1 rr (kt := ?_)
  refine Zac ?_
  refine ⟨F1,_,_,_,rfl,S1.sub,rr,rfl,Zb8 hl.2 (by omega),fun v2 F2 H2 c2 f2 => ?_⟩
  have S2 := S1.call0 c2
  have f1 := f1.up c2
  refine rd_cat (S2.l f1) (S2.l f2) (decide_eq_true (Nat.le_trans hf (by rw [sizeLine_eq]; decide))) ?_
  refine alL' S2 (fun v3 F3 H3 c3 f3 => ?_)
  exact hQ _ _ _ (S2.call0 c3) f3
theorem Zgt {C : Str} (hC : C = "Both" ∨ C = "Either") : FnOk P w K mg base CX0 1 (He.fAd K (C,some "forms")) (fdOf K (C,some "forms")) ["self"] (Za4 0 C K) := by
 have no : ∀ vs H Q E,¬ Za4 0 C K vs H Q E := by
  intro vs H Q E h
  obtain ⟨_,_,a,_,_,_,_,hc,hm,_⟩ := h
  obtain ⟨h1,_,_⟩ := Zby hm
  cases a with
  | form _ =>
   subst hc
   rcases hC with h | h
   ·
    exact absurd (show ("Form" : Str) = "Both" from h) (by decide)
   ·
    exact absurd (show ("Form" : Str) = "Either" from h) (by decide)
  | both l r => exact absurd (show max l.ht r.ht + 1 ≤ 0 from h1) (by omega)
  | either l r => exact absurd (show max l.ht r.ht + 1 ≤ 0 from h1) (by omega)
 exact ⟨fun vs H Q E h => absurd h (no vs H Q E),fun A outer s H args us vs Q E hr he hb hv h => absurd h (no vs H Q E)⟩
theorem Zdx (T : Tx K mg) : ∀ n,VM P w K mg base (n + 1) "forms" ["self"] (fun x => Za4 n x K)
 | 0 => ⟨fun x hx => by
  rcases hx with rfl | rfl | rfl
  ·
   exact ⟨T.c_Form,T.me_Form_forms,Zgv T 0,Zhq T⟩
  ·
   exact ⟨T.c_Both,T.me_Both_forms,Zgt (.inl rfl),Zhu T⟩
  ·
   exact ⟨T.c_Either,T.me_Either_forms,Zgt (.inr rfl),Zgl T⟩⟩
 | n + 1 => ⟨fun x hx => by
  have V := Zdx T n
  rcases hx with rfl | rfl | rfl
  ·
   exact ⟨T.c_Form,T.me_Form_forms,Zgv T (n + 1),Zhq T⟩
  ·
   exact ⟨T.c_Both,T.me_Both_forms,Zju T V,Zhu T⟩
  ·
   exact ⟨T.c_Either,T.me_Either_forms,Zim T V,Zgl T⟩⟩
def Zfv (K : PySem.W.Frag) : Sp := fun vs H Q _ => ∃ (F : Hp) (p_self : Addr) (dx : Addr) (v_one : V) (a_one : Pat) (v_other : V) (a_other : Pat) (r : (Pat × Pat)),vs = [.ref p_self,v_one,v_other] ∧ Same F H ∧ Ow (fun a => a = p_self) H F H p_self (.ins (He.ga K "Both") dx []) ∧ qPat.r K F v_one a_one ∧ qPat.r K F v_other a_other ∧ Zbn a_one a_other = some r ∧ ∀ (F' H' : Hp) (u0 u1 : V),Sx (fun a => a = p_self) F H F' H' → Ow (fun a => a = p_self) H F' H' p_self (.ins (He.ga K "Both") dx [("left",u0),("right",u1)]) → qPat.r K F' u0 r.1 → qPat.r K F' u1 r.2 → Q .non H'
theorem Zik : FnScope ["self","one","other"] ["self","one","other"] (defScope Zb6) := ⟨rfl,rfl,rfl,by decide +kernel,rfl,by decide +kernel,by decide +kernel⟩
theorem Zio (T : Tx K mg) : Binds K (fdOf K ("Both",some "__init__")) ["self","one","other"] [] := FunD.bindsN T.F_Both___init__ fun _ _ _ _ _ _ us hl => match us,hl with | [_,_,_],_ => rfl
theorem Zin (T : Tx K mg) : FnOk P w K mg base CX0 5 (He.fAd K ("Both",some "__init__")) (fdOf K ("Both",some "__init__")) ["self","one","other"] (Zfv K) := by
 refine FunD.ok T.F_Both___init__ Zik (fun vs H0 Q E h => ?_) (fun cdv A outer s H0 vs Q E hr h => ?_)
 ·
  obtain ⟨_,_,_,_,_,_,_,_,rfl,_⟩ := h
  rfl
 ·
  obtain ⟨F0,p_self,dx,v_one,a_one,v_other,a_other,r,rfl,hE,w_self,f_one,f_other,hm,hQ⟩ := h
  refine ⟨_,PSs.nox ((pss_cons (ps_if (pt_cmpR op_gt (pe_op op_add (pe_callB (r := Zc9 K) Za3 (by rfl) T.n_len (by decide +kernel) (pa_cons (Zbx (E := E0) (pv 1)) pa_nil)) (pe_callB (r := Zc9 K) Za3 (by rfl) T.n_len (by decide +kernel) (pa_cons (Zbx (E := E0) (pv 2)) pa_nil))) (pe_glob (v := V.int 3) (by rfl) (T.k_MOST_FORMS.choose_spec) ⟨_,rfl⟩) (nomark _)) (pss_one Zf5) pss_nil) (pss_cons (ps_fld (pv 0) (pv 1) rfl) (pss_one (ps_fld (pv 0) (pv 2) rfl))))),?_⟩
  have S : Sx (fun a => a = p_self) F0 H0 F0 H0 := Sx.refl hE (Zjy w_self)
  unfold Zbn at hm
  refine Zaf <| Zal <| Zag <| Zad <| Zad <| Zay <| Zaa ?_
  refine Zbe ?_
  refine rd_v rfl ?_
  refine VM.call (Zdx T 3) (hr.mono (by decide)) S f_one ?_
  obtain ⟨t1,e2,hm⟩ := Zab hm
  refine Zac ?_
  refine ⟨F0,_,_,t1,rfl,S.sub,f_one,rfl,e2,fun v6 F3 H4 c5 f7 => ?_⟩
  have S8 := S.call0 c5
  obtain ⟨f_one,f_other⟩ := up2 f_one f_other c5
  have w_self := w_self.call0 c5
  refine Zac ?_
  refine Zbi (S8.l f7).r.q ?_
  refine Zay <| Zaa ?_
  refine Zbe ?_
  refine rd_v rfl ?_
  refine VM.call (Zdx T 3) (hr.mono (by decide)) S8 f_other ?_
  obtain ⟨t9,e10,hm⟩ := Zab hm
  refine Zac ?_
  refine ⟨F3,_,_,t9,rfl,S8.sub,f_other,rfl,e10,fun v14 F11 H12 c13 f15 => ?_⟩
  have S16 := S8.call0 c13
  obtain ⟨f_one,f_other⟩ := up2 f_one f_other c13
  have w_self := w_self.call0 c13
  refine Zac ?_
  refine Zbi (S16.l f15).r.q ?_
  refine Zax <| rd_c <| Zax <| rd_b ?_
  refine if_b hm (fun b17 hm => ?_) (fun b17 hm => ?_)
  ·
   cases hm
  ·
   refine Zaj <| Zaf ?_
   refine Zi4 ?_
   refine rd_v rfl <| rd_v rfl ?_
   refine fset (fs' := [("left",v_one)]) S16 w_self T.c_Both T.na_Both_left (by rfl) (by rfl) (fun H18 c19 w20 => ?_)
   have f21 : qPat.r K F11 v_one a_one := f_one
   have S22 := S16.call1 c19 w_self
   obtain ⟨f_one,f_other,f21⟩ := up3 f_one f_other f21 c19
   refine Zi4 ?_
   refine rd_v rfl <| rd_v rfl ?_
   refine fset (fs' := [("left",v_one),("right",v_other)]) S22 w20 T.c_Both T.na_Both_right (by rfl) (by rfl) (fun H23 c24 w25 => ?_)
   have f26 : qPat.r K F11 v_other a_other := f_other
   have S27 := S22.call1 c24 w20
   obtain ⟨f_one,f_other,f21,f26⟩ := up4 f_one f_other f21 f26 c24
   cases hm
   exact hQ _ _ v_one v_other S27 w25 f21 f26
theorem new_Both {P0' : Addr → Prop} {F0 H0 F H : Hp} {Q : VK} {E : XK} {b0 : Pat} {v0 : V} {b1 : Pat} {v1 : V} {r : (Pat × Pat)} (S : Sx P0' F0 H0 F H) (f0 : qPat.r K F v0 b0) (f1 : qPat.r K F v1 b1) (hm : Zbn b0 b1 = some r) (k : ∀ v F' H',Sx P0 F H F' H' → qBoth.r K F' v r → Q v H') : mkK (He.ga K "Both") (fun vs => Zfv K (vs ++ [])) E Q [v0,v1] H := by
 refine mk_plain S fun x dx H1 hx c1 w => ?_
 refine ⟨F,x,dx,v0,b0,v1,b1,r,rfl,c1.sub,w,f0,f1,hm,fun F' H' u0 u1 c w' k0 k1 => ⟨rfl,?_⟩⟩
 obtain ⟨F2,S2,le,h3⟩ := fzI c1 hx c w'
 exact k _ F2 H' S2 ⟨x,dx,u0,u1,rfl,h3,qPat.mono le k0,qPat.mono le k1⟩
def Zcw (K : PySem.W.Frag) : Sp := fun vs H Q _ => ∃ (F : Hp) (v_self : V) (a_self : Pat) (v_other : V) (a_other : Pat) (r : Pat),vs = [v_self,v_other] ∧ Same F H ∧ qPat.r K F v_self a_self ∧ qPat.r K F v_other a_other ∧ Zaz a_self a_other = some r ∧ ∀ v F' H',Sx P0 F H F' H' → qPat.r K F' v r → Q v H'
theorem Zg8 : FnScope ["self","other"] ["self","other"] (defScope Zbk) := ⟨rfl,rfl,rfl,by decide +kernel,rfl,by decide +kernel,by decide +kernel⟩
theorem Zei (T : Tx K mg) : Binds K (fdOf K ("Pattern",some "__and__")) ["self","other"] [] := FunD.bindsN T.F_Pattern___and__ fun _ _ _ _ _ _ us hl => match us,hl with | [_,_],_ => rfl
theorem Zeh (T : Tx K mg) : FnOk P w K mg base CX0 7 (He.fAd K ("Pattern",some "__and__")) (fdOf K ("Pattern",some "__and__")) ["self","other"] (Zcw K) := by
 refine FunD.ok T.F_Pattern___and__ Zg8 (fun vs H0 Q E h => ?_) (fun cdv A outer s H0 vs Q E hr h => ?_)
 ·
  obtain ⟨_,_,_,_,_,_,rfl,_⟩ := h
  rfl
 ·
  obtain ⟨F0,v_self,a_self,v_other,a_other,r,rfl,hE,f_self,f_other,hm,hQ⟩ := h
  refine ⟨_,PSs.nox ((pss_cons (ps_if (pt_not (pt_val (pe_callB (r := rIsi K) call_isi (by rfl) T.n_isinstance (by decide +kernel) (pa_cons (pv 1) (pa_cons (pe_glob (v := V.ref (He.ga K "Pattern")) (by rfl) T.gc_Pattern rfl) pa_nil))))) pss_dead pss_nil) (pss_one (ps_ret (pe_make T.mk_Both (Zin T) (hr.mono (by decide)) (by rfl) T.gc_Both (Zio T) .nil pass0 (pa_cons (pv 0) (pa_cons (pv 1) pa_nil))))))),?_⟩
  have S : Sx P0 F0 H0 F0 H0 := Sx.refl0 hE
  unfold Zaz at hm
  obtain ⟨t1,e2,hm⟩ := Zab hm
  refine Zaf <| Zal <| Zgr <| Zgz <| Zay <| Zaa <| rd_v rfl <| Zaa <| rd_c <| Zac ?_
  refine Zko T.pf S f_other ?_
  refine rd_b <| if_ff <| Zaj <| Zai <| rd_make <| Zaa <| rd_v rfl <| Zaa <| rd_v rfl <| Zac ?_
  refine new_Both S f_self f_other e2 (fun v3 F4 H5 c6 f7 => ?_)
  have S8 := S.call0 c6
  obtain ⟨f_self,f_other⟩ := up2 f_self f_other c6
  have f9 : qPat.r K F4 v3 (Pat.both (t1).1 (t1).2) := (show qPat.r K F4 v3 _ from f7)
  cases hm
  exact hQ _ _ _ S8 f9
def Zef (K : PySem.W.Frag) : Sp := fun vs H Q _ => ∃ (F : Hp) (p_self : Addr) (dx : Addr) (v_one : V) (a_one : Pat) (v_other : V) (a_other : Pat) (r : (Pat × Pat)),vs = [.ref p_self,v_one,v_other] ∧ Same F H ∧ Ow (fun a => a = p_self) H F H p_self (.ins (He.ga K "Either") dx []) ∧ qPat.r K F v_one a_one ∧ qPat.r K F v_other a_other ∧ Za8 a_one a_other = some r ∧ ∀ (F' H' : Hp) (u0 u1 : V),Sx (fun a => a = p_self) F H F' H' → Ow (fun a => a = p_self) H F' H' p_self (.ins (He.ga K "Either") dx [("left",u0),("right",u1)]) → qPat.r K F' u0 r.1 → qPat.r K F' u1 r.2 → Q .non H'
theorem Zg9 : FnScope ["self","one","other"] ["self","one","other"] (defScope Zbl) := ⟨rfl,rfl,rfl,by decide +kernel,rfl,by decide +kernel,by decide +kernel⟩
theorem Zhs (T : Tx K mg) : Binds K (fdOf K ("Either",some "__init__")) ["self","one","other"] [] := FunD.bindsN T.F_Either___init__ fun _ _ _ _ _ _ us hl => match us,hl with | [_,_,_],_ => rfl
theorem Zhf (T : Tx K mg) : FnOk P w K mg base CX0 5 (He.fAd K ("Either",some "__init__")) (fdOf K ("Either",some "__init__")) ["self","one","other"] (Zef K) := by
 refine FunD.ok T.F_Either___init__ Zg9 (fun vs H0 Q E h => ?_) (fun cdv A outer s H0 vs Q E hr h => ?_)
 ·
  obtain ⟨_,_,_,_,_,_,_,_,rfl,_⟩ := h
  rfl
 ·
  obtain ⟨F0,p_self,dx,v_one,a_one,v_other,a_other,r,rfl,hE,w_self,f_one,f_other,hm,hQ⟩ := h
  refine ⟨_,PSs.nox ((pss_cons (ps_if (pt_cmpR op_gt (pe_op op_add (pe_callB (r := Zc9 K) Za3 (by rfl) T.n_len (by decide +kernel) (pa_cons (Zbx (E := E0) (pv 1)) pa_nil)) (pe_callB (r := Zc9 K) Za3 (by rfl) T.n_len (by decide +kernel) (pa_cons (Zbx (E := E0) (pv 2)) pa_nil))) (pe_glob (v := V.int 3) (by rfl) (T.k_MOST_FORMS.choose_spec) ⟨_,rfl⟩) (nomark _)) (pss_one Zf5) pss_nil) (pss_cons (ps_fld (pv 0) (pv 1) rfl) (pss_one (ps_fld (pv 0) (pv 2) rfl))))),?_⟩
  have S : Sx (fun a => a = p_self) F0 H0 F0 H0 := Sx.refl hE (Zjy w_self)
  unfold Za8 at hm
  refine Zaf <| Zal <| Zag <| Zad <| Zad <| Zay <| Zaa ?_
  refine Zbe ?_
  refine rd_v rfl ?_
  refine VM.call (Zdx T 3) (hr.mono (by decide)) S f_one ?_
  obtain ⟨t1,e2,hm⟩ := Zab hm
  refine Zac ?_
  refine ⟨F0,_,_,t1,rfl,S.sub,f_one,rfl,e2,fun v6 F3 H4 c5 f7 => ?_⟩
  have S8 := S.call0 c5
  obtain ⟨f_one,f_other⟩ := up2 f_one f_other c5
  have w_self := w_self.call0 c5
  refine Zac ?_
  refine Zbi (S8.l f7).r.q ?_
  refine Zay <| Zaa ?_
  refine Zbe ?_
  refine rd_v rfl ?_
  refine VM.call (Zdx T 3) (hr.mono (by decide)) S8 f_other ?_
  obtain ⟨t9,e10,hm⟩ := Zab hm
  refine Zac ?_
  refine ⟨F3,_,_,t9,rfl,S8.sub,f_other,rfl,e10,fun v14 F11 H12 c13 f15 => ?_⟩
  have S16 := S8.call0 c13
  obtain ⟨f_one,f_other⟩ := up2 f_one f_other c13
  have w_self := w_self.call0 c13
  refine Zac ?_
  refine Zbi (S16.l f15).r.q ?_
  refine Zax <| rd_c <| Zax <| rd_b ?_
  refine if_b hm (fun b17 hm => ?_) (fun b17 hm => ?_)
  ·
   cases hm
  ·
   refine Zaj <| Zaf ?_
   refine Zi4 ?_
   refine rd_v rfl <| rd_v rfl ?_
   refine fset (fs' := [("left",v_one)]) S16 w_self T.c_Either T.na_Either_left (by rfl) (by rfl) (fun H18 c19 w20 => ?_)
   have f21 : qPat.r K F11 v_one a_one := f_one
   have S22 := S16.call1 c19 w_self
   obtain ⟨f_one,f_other,f21⟩ := up3 f_one f_other f21 c19
   refine Zi4 ?_
   refine rd_v rfl <| rd_v rfl ?_
   refine fset (fs' := [("left",v_one),("right",v_other)]) S22 w20 T.c_Either T.na_Either_right (by rfl) (by rfl) (fun H23 c24 w25 => ?_)
   have f26 : qPat.r K F11 v_other a_other := f_other
   have S27 := S22.call1 c24 w20
   obtain ⟨f_one,f_other,f21,f26⟩ := up4 f_one f_other f21 f26 c24
   cases hm
   exact hQ _ _ v_one v_other S27 w25 f21 f26
theorem new_Either {P0' : Addr → Prop} {F0 H0 F H : Hp} {Q : VK} {E : XK} {b0 : Pat} {v0 : V} {b1 : Pat} {v1 : V} {r : (Pat × Pat)} (S : Sx P0' F0 H0 F H) (f0 : qPat.r K F v0 b0) (f1 : qPat.r K F v1 b1) (hm : Za8 b0 b1 = some r) (k : ∀ v F' H',Sx P0 F H F' H' → qEither.r K F' v r → Q v H') : mkK (He.ga K "Either") (fun vs => Zef K (vs ++ [])) E Q [v0,v1] H := by
 refine mk_plain S fun x dx H1 hx c1 w => ?_
 refine ⟨F,x,dx,v0,b0,v1,b1,r,rfl,c1.sub,w,f0,f1,hm,fun F' H' u0 u1 c w' k0 k1 => ⟨rfl,?_⟩⟩
 obtain ⟨F2,S2,le,h3⟩ := fzI c1 hx c w'
 exact k _ F2 H' S2 ⟨x,dx,u0,u1,rfl,h3,qPat.mono le k0,qPat.mono le k1⟩
def Zc6 (K : PySem.W.Frag) : Sp := fun vs H Q _ => ∃ (F : Hp) (v_self : V) (a_self : Pat) (v_other : V) (a_other : Pat) (r : Pat),vs = [v_self,v_other] ∧ Same F H ∧ qPat.r K F v_self a_self ∧ qPat.r K F v_other a_other ∧ Za2 a_self a_other = some r ∧ ∀ v F' H',Sx P0 F H F' H' → qPat.r K F' v r → Q v H'
theorem Zhx : FnScope ["self","other"] ["self","other"] (defScope Zbu) := ⟨rfl,rfl,rfl,by decide +kernel,rfl,by decide +kernel,by decide +kernel⟩
theorem Zfe (T : Tx K mg) : Binds K (fdOf K ("Pattern",some "__or__")) ["self","other"] [] := FunD.bindsN T.F_Pattern___or__ fun _ _ _ _ _ _ us hl => match us,hl with | [_,_],_ => rfl
theorem Ze7 (T : Tx K mg) : FnOk P w K mg base CX0 7 (He.fAd K ("Pattern",some "__or__")) (fdOf K ("Pattern",some "__or__")) ["self","other"] (Zc6 K) := by
 refine FunD.ok T.F_Pattern___or__ Zhx (fun vs H0 Q E h => ?_) (fun cdv A outer s H0 vs Q E hr h => ?_)
 ·
  obtain ⟨_,_,_,_,_,_,rfl,_⟩ := h
  rfl
 ·
  obtain ⟨F0,v_self,a_self,v_other,a_other,r,rfl,hE,f_self,f_other,hm,hQ⟩ := h
  refine ⟨_,PSs.nox ((pss_cons (ps_if (pt_not (pt_val (pe_callB (r := rIsi K) call_isi (by rfl) T.n_isinstance (by decide +kernel) (pa_cons (pv 1) (pa_cons (pe_glob (v := V.ref (He.ga K "Pattern")) (by rfl) T.gc_Pattern rfl) pa_nil))))) pss_dead pss_nil) (pss_one (ps_ret (pe_make T.mk_Either (Zhf T) (hr.mono (by decide)) (by rfl) T.gc_Either (Zhs T) .nil pass0 (pa_cons (pv 0) (pa_cons (pv 1) pa_nil))))))),?_⟩
  have S : Sx P0 F0 H0 F0 H0 := Sx.refl0 hE
  unfold Za2 at hm
  obtain ⟨t1,e2,hm⟩ := Zab hm
  refine Zaf <| Zal <| Zgr <| Zgz <| Zay <| Zaa <| rd_v rfl <| Zaa <| rd_c <| Zac ?_
  refine Zko T.pf S f_other ?_
  refine rd_b <| if_ff <| Zaj <| Zai <| rd_make <| Zaa <| rd_v rfl <| Zaa <| rd_v rfl <| Zac ?_
  refine new_Either S f_self f_other e2 (fun v3 F4 H5 c6 f7 => ?_)
  have S8 := S.call0 c6
  obtain ⟨f_self,f_other⟩ := up2 f_self f_other c6
  have f9 : qPat.r K F4 v3 (Pat.either (t1).1 (t1).2) := (show qPat.r K F4 v3 _ from f7)
  cases hm
  exact hQ _ _ _ S8 f9
def sp_parts_of (K : PySem.W.Frag) : Sp := fun vs H Q _ => ∃ (F : Hp) (a_text : Str) (r : (Option (List Str))),vs = [(V.str (a_text))] ∧ Same F H ∧ Zd0 a_text = some r ∧ ∀ v F' H',Sx P0 F H F' H' → (qO (qL qS)).r K F' v r → Q v H'
theorem sc_parts_of : FnScope ["text","parts","at","found","free","end"] ["text"] (defScope Zev) := ⟨rfl,rfl,rfl,by decide +kernel,rfl,by decide +kernel,by decide +kernel⟩
theorem bn_parts_of (T : Tx K mg) : Binds K (fdOf K ("parts_of",none)) ["text"] [] := FunD.bindsN T.F_parts_of fun _ _ _ _ _ _ us hl => match us,hl with | [_],_ => rfl
theorem ok_parts_of (T : Tx K mg) : FnOk P w K mg base CX0 1 (He.ga K "parts_of") (fdOf K ("parts_of",none)) ["text"] (sp_parts_of K) := by
 refine FunD.ok T.F_parts_of sc_parts_of (fun vs H0 Q E h => ?_) (fun cdv A outer s H0 vs Q E hr h => ?_)
 ·
  obtain ⟨_,_,_,rfl,_⟩ := h
  rfl
 ·
  obtain ⟨F0,a_text,r,rfl,hE,hm,hQ⟩ := h
  refine ⟨_,PSs.nox ((pss_cons (ps_set (i := 1) sc_parts_of.nd rfl (dk rfl) (pe_lst pa_nil)) (pss_cons (ps_set (i := 2) sc_parts_of.nd rfl (dk rfl) pe_int) (pss_cons (ps_while PassesOwn.never (pt_cmpR op_lt (pv 2) (pe_callB Zeu (by rfl) T.n_len (by decide +kernel) (pa_cons (pv 0) pa_nil)) (nomark _)) (pss_cons (ps_set (i := 3) sc_parts_of.nd rfl (dk rfl) pe_str) (pss_cons (ps_for PassesOwn.never rfl (pi_tupK (pe_glob (v := V.ref (He.ga K "FREE_CELLS")) (by rfl) T.g_FREE_CELLS rfl)) (pg_name (i := 4) sc_parts_of.nd rfl (dk rfl)) (pss_one (ps_if (pt_val (Zcv (K := K) PySem.F.plainAttrs_str PySem.F.slot_str_startswith PySem.F.type_str_startswith mt_startswith3 (pv 0) (pa_cons (pv 4) (pa_cons (pv 2) pa_nil)))) (pss_one (ps_set (i := 3) sc_parts_of.nd rfl (dk rfl) (pv 4))) pss_nil))) (pss_cons (ps_set (i := 5) sc_parts_of.nd rfl (dk rfl) (pv 2)) (pss_cons (ps_while PassesOwn.never (PW.pt (pw_and (pt_cmpR Zb1 (pv 3) pe_str (nomark _)) (pw_and (pt_cmpR op_lt (pv 5) (pe_callB Zeu (by rfl) T.n_len (by decide +kernel) (pa_cons (pv 0) pa_nil)) (nomark _)) (pw_and1 (pt_cmpR Zj4 (pe_ix ix_str (pv 0) (pv 5) (fun _ _ => rfl)) (pe_glob (v := V.str " #-.0123456789:>ABCDEFGHIJKLMNOPQRSTUVWXYZabcdefghijklmnopqrstuvwxyz") (by rfl) (T.k_SIGNS.choose_spec) ⟨_,rfl⟩) rfl))))) (pss_one (ps_aug (i := 5) sc_parts_of.nd rfl (dk rfl) pe_int ip_add))) (pss_cons (ps_if (PW.pt (pw_and (pt_cmpR Zb1 (pv 3) pe_str (nomark _)) (pw_and1 (pt_cmpR Zc5 (pv 5) (pv 2) (nomark _))))) (pss_one (ps_ret pe_non)) pss_nil) (C8.pss_cut (ps_if (pt_cmpR Zb1 (pv 3) pe_str (nomark _)) (pss_one (ps_set (i := 3) sc_parts_of.nd rfl (dk rfl) (pe_slice sl_str (pv 0) (po_some (pv 2)) (po_some (pv 5))))) pss_nil) (pss_cons (ps_expr (Zcv (K := K) PySem.F.plainAttrs_list PySem.F.slot_list_append PySem.F.type_list_append mt_append (pv 1) (pa_cons (pv 3) pa_nil))) (pss_one (ps_aug (i := 2) sc_parts_of.nd rfl (dk rfl) (pe_callB Zeu (by rfl) T.n_len (by decide +kernel) (pa_cons (pv 3) pa_nil)) ip_add)))))))))) (pss_one (ps_ret (pv 1))))))),?_⟩
  have S : Sx P0 F0 H0 F0 H0 := Sx.refl0 hE
  unfold Zd0 at hm
  refine Zaf <| Zak <| Zcz <| Zac <| Zfg rfl ?_
  refine al S (fun p1 H2 np3 c4 w5 => ?_)
  have r6 : Row qS K F0 [] ([] : List Str) := .nil
  have z7 := S.free0 np3
  have S8 := S.call0 c4
  obtain ⟨t9,e10,hm⟩ := Zab hm
  refine Zam <| Zaf <| Zak <| rd_c <| Zam <| Zaf ?_
  refine rd_whileC e10 (fun (s11 : ((List Str) × Int)) σ H => ∃ (F : Hp) (o3 : Option V) (o4 : Option V) (o5 : Option V) (vs0 : List V),σ = [some (V.str (a_text)),some (V.ref p1),some (V.int (s11.2)),o3,o4,o5] ∧ Sx (fun a => a = p1) F0 H2 F H ∧ Ow (fun a => a = p1) H2 F H p1 (.lst vs0) ∧ Row qS K F vs0 s11.1) ?_ ?_ ?_ ?_
  ·
   have S12 : Sx (fun a => a = p1) _ _ _ _ := Sx.refl S8.sub (fun a z => by rw [z,w5.at_]; exact (fun h => nomatch h))
   have w13 : Ow (fun a => a = p1) H2 _ _ _ _ := ⟨w5.fr,w5.at_,.inr (rfl)⟩
   exact ⟨F0,_,_,_,_,rfl,S12,w13,r6⟩
  ·
   rintro s14 b15 σ16 H17 T18 E19 ⟨F23,o25,o26,o27,v28,rfl,S24,w29,r30⟩ hm22 hT20 hE21
   unfold Zbh at hm22
   obtain ⟨g31,hm22⟩ := Zae hm22
   refine Zag <| Zad <| rd_v rfl <| Zay <| Zaa <| rd_v rfl <| Zac ?_
   refine Zem g31 ?_
   refine Zax <| rd_b ?_
   refine if_j (fun b32 => ?_) (fun b32 => ?_)
   ·
    cases hm22; exact hT20 _ _ b32 ⟨F23,_,_,_,_,rfl,S24,w29,r30⟩
   ·
    cases hm22; exact hE21 _ _ b32 ⟨F23,_,_,_,_,rfl,S24,w29,r30⟩
  ·
   rintro s33 s34 σ35 H36 ⟨F40,o42,o43,o44,v45,rfl,S41,w46,r47⟩ hm37 hbk38 hrt39
   unfold Zcd at hm37
   have f48 : (qT qS).r K F40 (.ref (He.ga K "FREE_CELLS")) (["<digits>","<word>","<any>"] : List Str) := T.q_FREE_CELLS _
   refine Zaf <| Zak <| rd_c <| Zam <| Zaf <| Zdv ?_
   refine rd_iT ?_
   refine rd_c ?_
   refine rd_wTF S41 f48 (fun p49 vs50 hq51 row52 => ?_)
   obtain ⟨t53,e54,hm37⟩ := Zab hm37
   refine Zds feedsT (Zcc row52) e54 (fun (s55 : Str) σ H => ∃ (F : Hp) (o4 : Option V) (o5 : Option V),σ = [some (V.str (a_text)),some (V.ref p1),some (V.int (s33.2)),some (V.str (s55)),o4,o5] ∧ Sx P0 F40 H36 F H) ?_ ?_ ?_ ?_
   ·
    rintro _ _ _ ⟨_,_,_,_,S56⟩
    exact (Zdu S56.sub (Zdu S56.le hq51))
   ·
    have S57 := Sx.refl0 S41.sub
    exact ⟨F40,_,_,rfl,S57⟩
   ·
    rintro x58 v59 s60 c64 σ61 H62 f63 ⟨F65,o67,o68,rfl,S66⟩ hm71
    have r47 := Row.mono S66.le r47
    have w46 := w46.call0 S66
    unfold Zce at hm71
    cases (show v59 = (V.str (x58)) from f63)
    refine Zam <| Zal <| Zgz <| Ze5 <| rd_v rfl <| Ze4 (Zhv) <| Zaa <| rd_v rfl <| Zaa <| rd_v rfl <| Zac ?_
    refine rd_mSSI ?_
    refine rd_b ?_
    refine if_b hm71 (fun b72 hm71 => ?_) (fun b72 hm71 => ?_)
    ·
     cases hm71
     refine Zak <| rd_v rfl <| Zam ?_
     exact ⟨F65,_,_,rfl,S66⟩
    ·
     cases hm71
     refine Zaj ?_
     exact ⟨F65,_,_,rfl,S66⟩
   ·
    rintro σ73 H74 ⟨F75,o77,o78,rfl,S76⟩
    have S79 := S41.call0 S76
    have r47 := Row.mono S76.le r47
    have w46 := w46.call0 S76
    obtain ⟨t80,e81,hm37⟩ := Zab hm37
    refine Zaf <| Zak <| rd_v rfl <| Zam <| Zaf ?_
    refine Zi2 e81 (fun (s82 : Int) σ H => ∃ (F : Hp) (o4 : Option V),σ = [some (V.str (a_text)),some (V.ref p1),some (V.int (s33.2)),some (V.str (t53)),o4,some (V.int (s82))] ∧ Sx P0 F75 H74 F H) ?_ ?_ ?_ ?_
    ·
     have S83 := Sx.refl0 S79.sub
     exact ⟨F75,_,rfl,S83⟩
    ·
     rintro s84 b85 σ86 H87 T88 E89 ⟨F93,o95,rfl,S94⟩ hm92 hT90 hE91
     have r47 := Row.mono S94.le r47
     have w46 := w46.call0 S94
     unfold Zaq at hm92
     obtain ⟨t113,e114,hm92⟩ := Zab hm92
     refine Zfw <| Zag <| Zad <| rd_v rfl <| rd_c <| Zc4 <| rd_b ?_
     refine and_j (fun c H' => c = t113 ∧ ∃ F',Sx P0 F93 H87 F' H') ?_ ?_ ?_
     ·
      intro b115 Q116 q117
      have e114 := if_t e114 b115
      have S118 := Sx.refl0 S94.sub
      obtain ⟨g119,e114⟩ := Zae e114
      obtain ⟨t122,e123,e114⟩ := Zab e114
      refine Zfw <| Zag <| Zad <| rd_v rfl <| Zay <| Zaa <| rd_v rfl <| Zac ?_
      refine Zem g119 ?_
      refine Zax <| rd_b ?_
      refine and_j (fun c H' => c = t122 ∧ ∃ F',Sx P0 F93 H87 F' H') ?_ ?_ ?_
      ·
       intro b124 Q125 q126
       have e123 := if_t e123 b124
       have S127 := Sx.refl0 S118.sub
       obtain ⟨t128,e129,e123⟩ := Zab e123
       cases e123
       refine Zag <| Zad <| Zad <| rd_v rfl <| rd_v rfl ?_
       refine Zh7 e129 ?_
       refine rd_c ?_
       refine Zh0 ?_
       refine rd_b ?_
       exact q126 _ _ ⟨rfl,F93,S127⟩
      ·
       intro b124
       have e123 := if_f e123 b124
       cases e123
       have S130 := Sx.refl0 S118.sub
       exact ⟨rfl,F93,S130⟩
      rintro b134 H132 ⟨rfl,F131,c133⟩
      have S135 := S118.call0 c133
      have r47 := Row.mono c133.le r47
      have w46 := w46.call0 c133
      cases e114
      exact q117 _ _ ⟨rfl,F131,S135⟩
     ·
      intro b115
      have e114 := if_f e114 b115
      cases e114
      have S136 := Sx.refl0 S94.sub
      exact ⟨rfl,F93,S136⟩
     rintro b140 H138 ⟨rfl,F137,c139⟩
     have S141 := S94.call0 c139
     have r47 := Row.mono c139.le r47
     have w46 := w46.call0 c139
     refine if_j (fun b142 => ?_) (fun b142 => ?_)
     ·
      cases hm92; exact hT90 _ _ b142 ⟨F137,_,rfl,S141⟩
     ·
      cases hm92; exact hE91 _ _ b142 ⟨F137,_,rfl,S141⟩
    ·
     rintro s143 s144 σ145 H146 ⟨F150,o152,rfl,S151⟩ hm147
     have r47 := Row.mono S151.le r47
     have w46 := w46.call0 S151
     unfold Zbg at hm147
     cases hm147
     refine rd_aug rfl ?_
     refine rd_c ?_
     refine rd_ipI ?_
     exact ⟨F150,_,rfl,S151⟩
    ·
     rintro σ153 H154 ⟨F155,o157,rfl,S156⟩
     have S158 := S79.call0 S156
     have r47 := Row.mono S156.le r47
     have w46 := w46.call0 S156
     refine Zaf <| Zal <| Zfw <| Zag <| Zad <| rd_v rfl <| rd_c <| Zc4 <| rd_b ?_
     refine and_p (by intro _ Q' q; refine Zag ?_; refine Zad ?_; refine rd_v rfl ?_; refine rd_v rfl ?_; refine Zax ?_; refine rd_b ?_; exact q) ?_
     refine if_b hm37 (fun b159 hm37 => ?_) (fun b159 hm37 => ?_)
     ·
      have f160 : (qO (qL qS)).r K F155 V.non none := (show (qO (qL qS)).r K F155 V.non none from rfl)
      cases hm37
      have e161 := hrt39 _ rfl
      subst e161
      have hm := aft_rt hm
      have S162 := S8.call1 S158 w5
      have w163 : Ow P0 H0 _ _ _ _ := ⟨w46.fr,w46.at_,w5.mine⟩
      cases hm
      refine Zai <| rd_c ?_
      exact hQ _ _ _ S162 f160
     ·
      obtain ⟨t164,e165,hm37⟩ := Zab hm37
      refine Zaj ?_
      refine rd_cut (fun σ' H' => ∃ (F : Hp) (o4 : Option V),σ' = [some (V.str (a_text)),some (V.ref p1),some (V.int (s33.2)),some (V.str (t164)),o4,some (V.int (t80))] ∧ Sx P0 F155 H154 F H') ?_ ?_
      ·
       have S166 := Sx.refl0 S158.sub
       refine Zal <| Zag <| Zad <| rd_v rfl <| rd_c <| Zc4 <| rd_b ?_
       refine if_b e165 (fun b167 e165 => ?_) (fun b167 e165 => ?_)
       ·
        obtain ⟨g168,e165⟩ := Zae e165
        cases e165
        refine Zak ?_
        refine Zel ?_
        refine rd_v rfl ?_
        refine Zdr ?_
        refine rd_v rfl ?_
        refine rd_i ?_
        refine Zdr ?_
        refine rd_v rfl ?_
        refine rd_i ?_
        refine Zeg g168 ?_
        refine Zam ?_
        exact ⟨F155,_,rfl,S166⟩
       ·
        cases e165
        refine Zaj ?_
        exact ⟨F155,_,rfl,S166⟩
      ·
       rintro σ170 H169 ⟨F171,o173,rfl,S172⟩
       have S174 := S158.call0 S172
       have r47 := Row.mono S172.le r47
       have w46 := w46.call0 S172
       obtain ⟨g175,hm37⟩ := Zae hm37
       refine Zaf <| Zc0 <| Ze5 <| rd_v rfl <| Ze4 w46.ty <| Zaa <| rd_v rfl <| Zac ?_
       refine ap S174 w46 r47 g175 (fun H176 c177 w178 => ?_)
       have r179 := r47.snoc (show qS.r K F171 _ t164 from rfl)
       have S180 := S174.call1 c177 w46
       have r179 := Row.mono c177.le r179
       obtain ⟨g181,hm37⟩ := Zae hm37
       cases hm37
       refine rd_aug rfl ?_
       refine Zay <| Zaa <| rd_v rfl <| Zac ?_
       refine Zem g181 ?_
       refine rd_ipI ?_
       exact ⟨_,rfl,⟨F171,_,_,_,_,rfl,S180,w178,r179⟩⟩
  ·
   rintro s184 σ182 H183 e185 ⟨F186,o188,o189,o190,v191,rfl,S187,w192,r193⟩
   subst e185
   have hm := aft_nx hm
   have S194 := S8.call1 S187 w5
   have w195 : Ow P0 H0 _ _ _ _ := ⟨w192.fr,w192.at_,w5.mine⟩
   obtain ⟨F196,S197,le198,f199,_,eq200⟩ := fz S194 w195 z7 r193
   have f201 : (qO (qL qS)).r K F196 (V.ref p1) (some s184.1) := (show (qO (qL qS)).r K F196 (V.ref p1) (some s184.1) from f199)
   cases hm
   refine Zai <| rd_v rfl ?_
   exact hQ _ _ _ S197 f201
def sp_is_line (K : PySem.W.Frag) : Sp := fun vs H Q _ => ∃ (F : Hp) (v_thing : V) (a_thing : Th) (r : Bool),vs = [v_thing] ∧ Same F H ∧ qTh.r K F v_thing a_thing ∧ Zfd a_thing = some r ∧ ∀ v F' H',Sx P0 F H F' H' → qB.r K F' v r → Q v H'
theorem sc_is_line : FnScope ["thing","sign"] ["thing"] (defScope Zf1) := ⟨rfl,rfl,rfl,by decide +kernel,rfl,by decide +kernel,by decide +kernel⟩
theorem Zj9 (T : Tx K mg) : Binds K (fdOf K ("is_line",none)) ["thing"] [] := FunD.bindsN T.F_is_line fun _ _ _ _ _ _ us hl => match us,hl with | [_],_ => rfl
theorem Zj5 (T : Tx K mg) : FnOk P w K mg base CX0 1 (He.ga K "is_line") (fdOf K ("is_line",none)) ["thing"] (sp_is_line K) := by
 refine FunD.ok T.F_is_line sc_is_line (fun vs H0 Q E h => ?_) (fun cdv A outer s H0 vs Q E hr h => ?_)
 ·
  obtain ⟨_,_,_,_,rfl,_⟩ := h
  rfl
 ·
  obtain ⟨F0,v_thing,a_thing,r,rfl,hE,f_thing,hm,hQ⟩ := h
  refine ⟨_,PSs.nox ((pss_cons (ps_if (PW.pt (pw_or (pt_not (pt_val (pe_callB (r := rIsi K) call_isi (by rfl) T.n_isinstance (by decide +kernel) (pa_cons (pv 0) (pa_cons (pe_bltn (v := V.ty "str") (by rfl) T.n_str (by decide +kernel) rfl) pa_nil))))) (pw_or1 (pt_cmpR Zb1 (pv 0) pe_str (nomark _))))) (pss_one (ps_ret pe_bl)) pss_nil) (pss_cons (ps_for PassesOwn.never rfl (pi_str (pv 0)) (pg_name (i := 1) sc_is_line.nd rfl (dk rfl)) (pss_one (ps_if (pt_cmpR op_niS (pv 1) (pe_glob (v := V.str " #-.0123456789:>ABCDEFGHIJKLMNOPQRSTUVWXYZabcdefghijklmnopqrstuvwxyz") (by rfl) (T.k_SIGNS.choose_spec) ⟨_,rfl⟩) rfl) (pss_one (ps_ret pe_bl)) pss_nil))) (pss_one (ps_ret pe_bl))))),?_⟩
  have S : Sx P0 F0 H0 F0 H0 := Sx.refl0 hE
  unfold Zfd at hm
  obtain ⟨t4,e5,hm⟩ := Zab hm
  refine Zaf <| Zal <| Zkm <| Zgr <| Zgz <| Zay <| Zaa <| rd_v rfl <| Zaa <| rd_c <| Zac ?_
  refine rd_isiTh (n := "str") (tx_th S f_thing) (by decide +kernel) ?_
  refine rd_b ?_
  refine or_j (fun c H' => c = t4 ∧ ∃ F',Sx P0 F0 H0 F' H') ?_ ?_ ?_
  ·
   intro b6 Q7 q8
   have e5 := if_f e5 b6
   have S9 := Sx.refl0 S.sub
   obtain ⟨t10,e11,e5⟩ := Zab e5
   have e12 := thS_fact f_thing e11
   cases e12
   cases e5
   refine Zag <| Zad <| rd_v rfl <| rd_c <| Zc4 <| rd_b ?_
   exact q8 _ _ ⟨rfl,F0,S9⟩
  ·
   intro b6
   have e5 := if_t e5 b6
   cases e5
   have S13 := Sx.refl0 S.sub
   exact ⟨rfl,F0,S13⟩
  rintro b17 H15 ⟨rfl,F14,c16⟩
  have S18 := S.call0 c16
  have f_thing := f_thing.up c16
  refine if_b hm (fun b19 hm => ?_) (fun b19 hm => ?_)
  ·
   cases hm
   refine Zai <| rd_c ?_
   exact hQ _ _ _ S18 rfl
  ·
   obtain ⟨t20,e21,hm⟩ := Zab hm
   have e22 := thS_fact f_thing e21
   cases e22
   refine Zaj <| Zaf <| Zdv ?_
   refine rd_iS ?_
   refine rd_v rfl ?_
   refine rd_wS ?_
   obtain ⟨t23,e24,hm⟩ := Zab hm
   refine rd_forC feedsS (typedS (K := K) (F := F14)) e24 (fun (s25 : Unit) σ H => ∃ (F : Hp) (o1 : Option V),σ = [some (V.str (t20)),o1] ∧ Sx P0 F14 H15 F H) ?_ ?_ ?_ ?_
   ·
    intro _ _ _ _; trivial
   ·
    have S27 := Sx.refl0 S18.sub
    exact ⟨F14,_,rfl,S27⟩
   ·
    rintro x28 v29 s30 c34 σ31 H32 f33 ⟨F35,o37,rfl,S36⟩ hm40 hbk38 hrt39
    unfold Zcb at hm40
    cases (show v29 = (V.str (x28)) from f33)
    refine Zam <| Zal <| Zag <| Zad <| rd_v rfl <| rd_c ?_
    refine rd_niSS ?_
    refine rd_b ?_
    refine if_b hm40 (fun b41 hm40 => ?_) (fun b41 hm40 => ?_)
    ·
     cases hm40
     have e42 := hrt39 _ rfl
     subst e42
     have hm := aft_rt hm
     have S43 := S18.call0 S36
     cases hm
     refine Zai <| rd_c ?_
     exact hQ _ _ _ S43 rfl
    ·
     cases hm40
     refine Zaj ?_
     exact ⟨_,rfl,⟨F35,_,rfl,S36⟩⟩
   ·
    rintro s46 σ44 H45 e47 ⟨F48,o50,rfl,S49⟩
    subst e47
    have hm := aft_nx hm
    have S51 := S18.call0 S49
    cases hm
    refine Zai <| rd_c ?_
    exact hQ _ _ _ S51 rfl
def Zkd (K : PySem.W.Frag) : Sp := fun vs H Q _ => ∃ (F : Hp) (v_parts : V) (a_parts : (List Str)) (a_at : Int) (r : Bool),vs = [v_parts,(V.int (a_at))] ∧ Same F H ∧ (qT qS).r K F v_parts a_parts ∧ Zdp a_parts a_at = some r ∧ ∀ v F' H',Sx P0 F H F' H' → qB.r K F' v r → Q v H'
theorem sc_is_allowed : FnScope ["parts","at","part"] ["parts","at"] (defScope Zdj) := ⟨rfl,rfl,rfl,by decide +kernel,rfl,by decide +kernel,by decide +kernel⟩
theorem Zk5 (T : Tx K mg) : Binds K (fdOf K ("is_allowed",none)) ["parts","at"] [] := FunD.bindsN T.F_is_allowed fun _ _ _ _ _ _ us hl => match us,hl with | [_,_],_ => rfl
theorem Zks (T : Tx K mg) : FnOk P w K mg base CX0 2 (He.ga K "is_allowed") (fdOf K ("is_allowed",none)) ["parts","at"] (Zkd K) := by
 refine FunD.ok T.F_is_allowed sc_is_allowed (fun vs H0 Q E h => ?_) (fun cdv A outer s H0 vs Q E hr h => ?_)
 ·
  obtain ⟨_,_,_,_,_,rfl,_⟩ := h
  rfl
 ·
  obtain ⟨F0,v_parts,a_parts,a_at,r,rfl,hE,f_parts,hm,hQ⟩ := h
  refine ⟨_,PSs.nox ((pss_cons (ps_set (i := 2) sc_is_allowed.nd rfl (dk rfl) (pe_ix (r := rIxT K) ix_tup (pv 0) (pv 1) (fun _ _ => rfl))) (pss_cons (ps_if (PW.pt (pw_or (pt_cmpR op_ge (pv 1) (pe_glob (v := V.int 4) (by rfl) (T.k_MOST_PARTS.choose_spec) ⟨_,rfl⟩) (nomark _)) (pw_or1 (pt_not (pt_val (pe_callB (r := rIsi K) call_isi (by rfl) T.n_isinstance (by decide +kernel) (pa_cons (pv 2) (pa_cons (pe_bltn (v := V.ty "str") (by rfl) T.n_str (by decide +kernel) rfl) pa_nil)))))))) (pss_one (ps_ret pe_bl)) pss_nil) (pss_cons (ps_if (pt_cmpR Zb1 (pv 2) (pe_glob (v := V.str "<any>") (by rfl) (T.k_ANY_CELL.choose_spec) ⟨_,rfl⟩) (nomark _)) (pss_one (ps_ret (pe_cmpR (r := rIn K true) op_notIn_seq (pe_glob (v := V.str "<any>") (by rfl) (T.k_ANY_CELL.choose_spec) ⟨_,rfl⟩) (pe_slice (r := rSlA K) sl_tupA (pv 0) po_none (po_some (pv 1))) rfl))) pss_nil) (pss_cons (ps_if (pt_cmpR (r := rIn K false) op_in_seq (pv 2) (pe_glob (v := V.ref (He.ga K "FREE_CELLS")) (by rfl) T.g_FREE_CELLS rfl) rfl) (pss_one (ps_ret pe_bl)) pss_nil) (pss_cons (ps_if (PW.pt (pw_and (pt_cmpR op_gt (pv 1) pe_int (nomark _)) (pw_and1 (pt_cmpR (r := rIn K true) op_notIn_seq (pe_ix (r := rIxT K) ix_tup (pv 0) (pe_op op_sub (pv 1) pe_int) (fun _ _ => rfl)) (pe_glob (v := V.ref (He.ga K "FREE_CELLS")) (by rfl) T.g_FREE_CELLS rfl) rfl)))) (pss_one (ps_ret pe_bl)) pss_nil) (pss_one (ps_ret (pe_and (pe_call (Zj5 T) (hr.mono (by decide)) (by rfl) T.g_is_line T.F_is_line.kp (Zj9 T) .nil pass0 (pa_cons (pv 2) pa_nil)) (pe_one (pe_cmpR op_le (pe_callB Zeu (by rfl) T.n_len (by decide +kernel) (pa_cons (pv 2) pa_nil)) (pe_glob (v := V.int 4) (by rfl) (T.k_MOST_SIGNS.choose_spec) ⟨_,rfl⟩) (nomark _)))))))))))),?_⟩
  have S : Sx P0 F0 H0 F0 H0 := Sx.refl0 hE
  unfold Zdp at hm
  obtain ⟨t1,e2,hm⟩ := Zab hm
  refine Zaf <| Zak <| Zad <| rd_v rfl <| rd_v rfl ?_
  refine rd_ixT (S.t f_parts) e2 (fun u3 f4 => ?_)
  cases (show u3 = (V.str (t1)) from f4)
  refine Zam <| Zaf <| Zal <| Zkm <| Zag <| Zad <| rd_v rfl <| rd_c <| Zax <| rd_b ?_
  refine or_p (by intro _ Q' q; refine Zgr ?_; refine Zgz ?_; refine Zay ?_; refine Zaa ?_; refine rd_v rfl ?_; refine Zaa ?_; refine rd_c ?_; refine Zac ?_; refine rd_isi (b := true) tx_str (by decide +kernel) ?_; refine rd_b ?_; exact q) ?_
  refine if_b hm (fun b5 hm => ?_) (fun b5 hm => ?_)
  ·
   cases hm
   refine Zai <| rd_c ?_
   exact hQ _ _ _ S rfl
  ·
   refine Zaj <| Zaf <| Zal <| Zag <| Zad <| rd_v rfl <| rd_c <| Zc4 <| rd_b ?_
   refine if_b hm (fun b6 hm => ?_) (fun b6 hm => ?_)
   ·
    refine Zai <| Zad <| rd_c ?_
    refine Zel ?_
    refine rd_v rfl ?_
    refine Zf3 ?_
    refine Zdr ?_
    refine rd_v rfl ?_
    refine rd_i ?_
    refine rd_slA S f_parts (fun v7 F8 H9 c10 f11 => ?_)
    have S12 := S.call0 c10
    have f_parts := f_parts.up c10
    cases hm
    refine rd_niS (S12.t f11).q ?_
    exact hQ _ _ _ S12 rfl
   ·
    have f13 : (qT qS).r K F0 (.ref (He.ga K "FREE_CELLS")) (["<digits>","<word>","<any>"] : List Str) := T.q_FREE_CELLS _
    refine Zaj <| Zaf <| Zal <| Zag <| Zad <| rd_v rfl <| rd_c ?_
    refine rd_inS (S.t f13).q ?_
    refine rd_b ?_
    refine if_b hm (fun b14 hm => ?_) (fun b14 hm => ?_)
    ·
     cases hm
     refine Zai <| rd_c ?_
     exact hQ _ _ _ S rfl
    ·
     obtain ⟨t20,e21,hm⟩ := Zab hm
     refine Zaj <| Zaf <| Zal <| Zfw <| Zag <| Zad <| rd_v rfl <| rd_c <| Zax <| rd_b ?_
     refine and_j (fun c H' => c = t20 ∧ ∃ F',Sx P0 F0 H0 F' H') ?_ ?_ ?_
     ·
      intro b22 Q23 q24
      have e21 := if_t e21 b22
      have S25 := Sx.refl0 S.sub
      obtain ⟨t26,e27,e21⟩ := Zab e21
      refine Zag <| Zad <| Zad <| rd_v rfl <| Zad <| rd_v rfl <| rd_c <| Zax ?_
      refine rd_ixT (S25.t f_parts) e27 (fun u28 f29 => ?_)
      cases (show u28 = (V.str (t26)) from f29)
      have f30 : (qT qS).r K F0 (.ref (He.ga K "FREE_CELLS")) (["<digits>","<word>","<any>"] : List Str) := T.q_FREE_CELLS _
      cases e21
      refine rd_c ?_
      refine rd_niS (S25.t f30).q ?_
      refine rd_b ?_
      exact q24 _ _ ⟨rfl,F0,S25⟩
     ·
      intro b22
      have e21 := if_f e21 b22
      cases e21
      have S31 := Sx.refl0 S.sub
      exact ⟨rfl,F0,S31⟩
     rintro b35 H33 ⟨rfl,F32,c34⟩
     have S36 := S.call0 c34
     have f_parts := f_parts.up c34
     refine if_b hm (fun b37 hm => ?_) (fun b37 hm => ?_)
     ·
      cases hm
      refine Zai <| rd_c ?_
      exact hQ _ _ _ S36 rfl
     ·
      have f38 : qTh.r K F32 (V.str (t1)) (Th.d (PyData.str (t1))) := (show qTh.r K F32 _ (Th.d (PyData.str (t1))) from Dp.str _)
      obtain ⟨t39,e40,hm⟩ := Zab hm
      refine Zaj <| Zai <| Zf4 <| Zah <| Zaa <| rd_v rfl <| Zac ?_
      refine ⟨F32,_,_,t39,rfl,S36.sub,f38,e40,fun v44 F41 H42 c43 f45 => ?_⟩
      have S46 := S36.call0 c43
      have f_parts := f_parts.up c43
      cases (show v44 = (V.bl (t39)) from f45)
      obtain ⟨t48,e49,hm⟩ := Zab hm
      refine rd_b ?_
      refine andV_j (fun c H' => c = V.bl t48 ∧ ∃ F',Sx P0 F41 H42 F' H') ?_ ?_ ?_
      ·
       intro b50 Q51 q52
       have e49 := if_t e49 b50
       have S53 := Sx.refl0 S46.sub
       obtain ⟨g54,e49⟩ := Zae e49
       cases e49
       refine Zad <| Zay <| Zaa <| rd_v rfl <| Zac ?_
       refine Zem g54 ?_
       refine rd_c <| Zax ?_
       exact q52 _ _ ⟨rfl,F41,S53⟩
      ·
       intro b50
       have e49 := if_f e49 b50
       cases e49
       have S55 := Sx.refl0 S46.sub
       exact ⟨rfl,F41,S55⟩
      rintro b59 H57 ⟨rfl,F56,c58⟩
      have S60 := S46.call0 c58
      have f_parts := f_parts.up c58
      cases hm
      exact hQ _ _ _ S60 rfl
def Zfu (K : PySem.W.Frag) : Sp := fun vs H Q _ => ∃ (F : Hp) (p_self : Addr) (dx : Addr) (v_parts : V) (a_parts : (List Str)) (r : (List Str)),vs = [.ref p_self,v_parts] ∧ Same F H ∧ Ow (fun a => a = p_self) H F H p_self (.ins (He.ga K "Form") dx []) ∧ (qT qS).r K F v_parts a_parts ∧ Zan a_parts = some r ∧ ∀ (F' H' : Hp) (u0 : V),Sx (fun a => a = p_self) F H F' H' → Ow (fun a => a = p_self) H F' H' p_self (.ins (He.ga K "Form") dx [("pieces",u0)]) → (qT qS).r K F' u0 r → Q .non H'
theorem sc_Form___init__ : FnScope ["self","parts","at"] ["self","parts"] (defScope Zb5) := ⟨rfl,rfl,rfl,by decide +kernel,rfl,by decide +kernel,by decide +kernel⟩
theorem Zbz (T : Tx K mg) : FnR P w K mg base CX0 3 (He.fAd K ("Form",some "__init__")) (starSp 1 (Zfu K)) := by
 obtain ⟨oc,od,dV,kV,doc,pm,an,cdv,ct,osl,efd,lk,hcd,hD,_⟩ := T.F_Form___init__.ex
 rw [efd] at lk
 obtain ⟨_,rfl⟩ | ⟨nD,_⟩ := hD
 rotate_left
 ·
  exact absurd rfl nD
 refine StX.fn_star (ps := ["self"]) (pv := "parts") lk hcd sc_Form___init__ StX.cxUp_none (fun us rest hl => StX.bind_star1 (p1 := "self") (pv := "parts") (B := fun us => bindArgs (PySem.W.fnOf _ _ _ _ _ .none kV doc pm an cdv ct) ⟨us,[]⟩) (fun a => by rfl) (fun a r rs => by rfl) us rest hl) (fun A outer s H0 vs Q E hr h => ?_)
 ·
  obtain ⟨F0,p_self,dx,v_parts,a_parts,r,rfl,hE,w_self,f_parts,hm,hQ⟩ := h
  refine ⟨_,PSs.nox ((pss_cons (ps_if (pt_cmpR Zc5 (pe_callB (r := Zc9 K) Za3 (by rfl) T.n_len (by decide +kernel) (pa_cons (pv 1) pa_nil)) pe_int (nomark _)) (pss_one Zf5) pss_nil) (pss_cons (ps_for PassesOwn.never rfl (pi_range1 (by rfl) T.n_range (pa_cons (pe_callB (r := Zc9 K) Za3 (by rfl) T.n_len (by decide +kernel) (pa_cons (pv 1) pa_nil)) pa_nil)) (pg_name (i := 2) sc_Form___init__.nd rfl (dk rfl)) (pss_one (ps_if (pt_not (pt_val (pe_call (Zks T) (hr.mono (by decide)) (by rfl) T.g_is_allowed T.F_is_allowed.kp (Zk5 T) .nil pass0 (pa_cons (pv 1) (pa_cons (pv 2) pa_nil))))) (pss_one Zf5) pss_nil))) (pss_one (ps_fld (pv 0) (pv 1) rfl))))),?_⟩
  have S : Sx (fun a => a = p_self) F0 H0 F0 H0 := Sx.refl hE (Zjy w_self)
  unfold Zan at hm
  refine Zaf <| Zal <| Zag <| Zad <| Zay <| Zaa <| rd_v rfl <| Zac ?_
  refine Zbi (S.t f_parts).q ?_
  refine rd_c <| Zax <| rd_b ?_
  refine if_b hm (fun b1 hm => ?_) (fun b1 hm => ?_)
  ·
   cases hm
  ·
   obtain ⟨g2,hm⟩ := Zae hm
   refine Zaj <| Zaf <| Zdv ?_
   refine Zi6 ?_
   refine Zaa <| Zay <| Zaa <| rd_v rfl <| Zac ?_
   refine Zbi (S.t f_parts).q ?_
   refine Zac ?_
   refine rd_r1 g2 ?_
   obtain ⟨t3,e4,hm⟩ := Zab hm
   refine Zds Zg5 (Ziu (K := K) (F := F0)) e4 (fun (s5 : Unit) σ H => ∃ (F : Hp) (o2 : Option V),σ = [some (V.ref p_self),some v_parts,o2] ∧ Sx P0 F0 H0 F H) ?_ ?_ ?_ ?_
   ·
    intro _ _ _ _; trivial
   ·
    have S7 := Sx.refl0 S.sub
    exact ⟨F0,_,rfl,S7⟩
   ·
    rintro x8 v9 s10 c14 σ11 H12 f13 ⟨F15,o17,rfl,S16⟩ hm20
    have f_parts := f_parts.up S16
    have w_self := w_self.call0 S16
    unfold Zc3 at hm20
    cases (show v9 = (V.int (x8)) from f13)
    obtain ⟨t21,e22,hm20⟩ := Zab hm20
    refine Zam <| Zal <| Zgr <| Zgz <| Zah <| Zaa <| rd_v rfl <| Zaa <| rd_v rfl <| Zac ?_
    refine ⟨F15,_,_,_,t21,rfl,S16.sub,f_parts,e22,fun v26 F23 H24 c25 f27 => ?_⟩
    have S28 := S16.call0 c25
    have f_parts := f_parts.up c25
    have w_self := w_self.call0 c25
    cases (show v26 = (V.bl (t21)) from f27)
    refine rd_b ?_
    refine if_b hm20 (fun b29 hm20 => ?_) (fun b29 hm20 => ?_)
    ·
     cases hm20
    ·
     cases hm20
     refine Zaj ?_
     exact ⟨F23,_,rfl,S28⟩
   ·
    rintro σ30 H31 ⟨F32,o34,rfl,S33⟩
    have S35 := S.call0 S33
    have f_parts := f_parts.up S33
    have w_self := w_self.call0 S33
    refine Zi4 ?_
    refine rd_v rfl <| rd_v rfl ?_
    refine fset (fs' := [("pieces",v_parts)]) S35 w_self T.c_Form T.na_Form_pieces (by rfl) (by rfl) (fun H36 c37 w38 => ?_)
    have f39 : (qT qS).r K F32 v_parts a_parts := f_parts
    have S40 := S35.call1 c37 w_self
    obtain ⟨f_parts,f39⟩ := up2 f_parts f39 c37
    cases hm
    exact hQ _ _ v_parts S40 w38 f39
theorem Zhg {P0' : Addr → Prop} {F0 H0 F H : Hp} {Q : VK} {E : XK} {vs : List V} {xs : List Str} {r : (List Str)} (S : Sx P0' F0 H0 F H) (row : Row qS K F vs xs) (hl : Nat.ble vs.length 900 = true) (hm : Zan xs = some r) (k : ∀ v F' H',Sx P0 F H F' H' → qForm.r K F' v r → Q v H') : mkK (He.ga K "Form") (starSp 1 (Zfu K)) E Q vs H := by
 refine mk_star S row hl fun x dx v F1 H1 hx c1 w rv => ?_
 refine ⟨F1,x,dx,v,xs,r,rfl,c1.sub,w,rv,hm,fun F' H' u0 c w' k0 => ⟨rfl,?_⟩⟩
 obtain ⟨F2,S2,le,h3⟩ := fzI c1 hx c w'
 exact k _ F2 H' S2 ⟨x,dx,u0,rfl,h3,(qT qS).mono le k0⟩
def Zkc (n : Nat) (K : PySem.W.Frag) : Sp := fun vs H Q _ => ∃ (F : Hp) (a_text : Str) (a_whole : Str) (r : Pat),vs = [(V.str (a_text)),(V.str (a_whole))] ∧ Same F H ∧ Za6 n a_text a_whole = some r ∧ ∀ v F' H',Sx P0 F H F' H' → qPat.r K F' v r → Q v H'
theorem sc_pattern_of : FnScope ["text","whole","parts","inner","middle","one","other"] ["text","whole"] (defScope Zdi) := ⟨rfl,rfl,rfl,by decide +kernel,rfl,by decide +kernel,by decide +kernel⟩
theorem Zft (T : Tx K mg) : Binds K (fdOf K ("pattern_of",none)) ["text","whole"] [] := FunD.bindsN T.F_pattern_of fun _ _ _ _ _ _ us hl => match us,hl with | [_,_],_ => rfl
theorem Zkr (T : Tx K mg) : ∀ n : Nat,FnOk P w K mg base CX0 (n + 7 + 1) (He.ga K "pattern_of") (fdOf K ("pattern_of",none)) ["text","whole"] (Zkc n K) := by
 intro n
 induction n with
 | zero =>
  refine FunD.ok T.F_pattern_of sc_pattern_of (fun vs H0 Q E h => ?_) (fun cdv A outer s H0 vs Q E hr h => ?_)
  ·
   obtain ⟨_,_,_,_,rfl,_⟩ := h
   rfl
  ·
   obtain ⟨F0,a_text,a_whole,r,rfl,hE,hm,hQ⟩ := h
   unfold Za6 at hm
   cases hm
 | succ n ih =>
  refine FunD.ok T.F_pattern_of sc_pattern_of (fun vs H0 Q E h => ?_) (fun cdv A outer s H0 vs Q E hr h => ?_)
  ·
   obtain ⟨_,_,_,_,rfl,_⟩ := h
   rfl
  ·
   obtain ⟨F0,a_text,a_whole,r,rfl,hE,hm,hQ⟩ := h
   refine ⟨_,PSs.nox ((pss_cons (ps_if (pt_not (pt_val (Zcv (K := K) PySem.F.plainAttrs_str PySem.F.slot_str_startswith PySem.F.type_str_startswith mt_startswith (pv 0) (pa_cons pe_str pa_nil)))) (pss_cons (ps_set (i := 2) sc_pattern_of.nd rfl (dk rfl) (pe_call (ok_parts_of T) (hr.mono (by omega)) (by rfl) T.g_parts_of T.F_parts_of.kp (bn_parts_of T) .nil pass0 (pa_cons (pv 0) pa_nil))) (pss_cons (ps_if (pt_cmpR op_isN' (pv 2) pe_non (nomark _)) (pss_one Zf5) pss_nil) (pss_one (ps_ret (pe_makeRSK (K := K) T.mk_Form (Zbz T) (hr.mono (by omega)) (by rfl) T.gc_Form pass0 (pv 2)))))) pss_nil) (pss_cons (ps_set (i := 3) sc_pattern_of.nd rfl (dk rfl) (pe_slice sl_str (pv 0) (po_some pe_int) (po_some (pe_un un_neg pe_int)))) (pss_cons (ps_set (i := 4) sc_pattern_of.nd rfl (dk rfl) (pe_call (ok_middle_of T) (hr.mono (by omega)) (by rfl) T.g_middle_of T.F_middle_of.kp (bn_middle_of T) .nil pass0 (pa_cons (pv 3) pa_nil))) (pss_cons (ps_if (PW.pt (pw_or (pt_not (pt_val (Zcv (K := K) PySem.F.plainAttrs_str PySem.F.slot_str_endswith PySem.F.type_str_endswith mt_endswith (pv 0) (pa_cons pe_str pa_nil)))) (pw_or1 (pt_cmpR op_isN' (pv 4) pe_non (nomark _))))) (pss_one Zf5) pss_nil) (pss_cons (ps_if (PW.pt (pw_or (pt_cmpR op_neS (pe_slice sl_str (pe_slice sl_str (pv 3) po_none (po_some (pv 4))) (po_some (pe_un un_neg pe_int)) po_none) pe_str (nomark _)) (pw_or1 (pt_cmpR op_neS (pe_slice sl_str (pv 3) (po_some (pe_op op_add (pv 4) pe_int)) (po_some (pe_op op_add (pv 4) pe_int))) pe_str (nomark _))))) (pss_one Zf5) pss_nil) (pss_cons (ps_set (i := 5) sc_pattern_of.nd rfl (dk rfl) (pe_call ih (hr.mono (by omega)) (by rfl) T.g_pattern_of T.F_pattern_of.kp (Zft T) .nil pass0 (pa_cons (pe_slice sl_str (pv 3) po_none (po_some (pe_op op_sub (pv 4) pe_int))) (pa_cons (pv 1) pa_nil)))) (pss_cons (ps_set (i := 6) sc_pattern_of.nd rfl (dk rfl) (pe_call ih (hr.mono (by omega)) (by rfl) T.g_pattern_of T.F_pattern_of.kp (Zft T) .nil pass0 (pa_cons (pe_slice sl_str (pv 3) (po_some (pe_op op_add (pv 4) pe_int)) po_none) (pa_cons (pv 1) pa_nil)))) (pss_one (ps_ret (pe_ifExp (pt_cmpR Zb1 (pe_ix ix_str (pv 3) (pv 4) (fun _ _ => rfl)) pe_str (nomark _)) (pe_op (r := rBinO K "and" _ (Zcw K) _) (Zkq (op := .BitAnd) (Zeh T) (hr.mono (by omega)) (Zei T) pass0) (pv 5) (pv 6)) (pe_op (r := rBinO K "or" _ (Zc6 K) _) (Zkq (op := .BitOr) (Ze7 T) (hr.mono (by omega)) (Zfe T) pass0) (pv 5) (pv 6))))))))))))),?_⟩
   have S : Sx P0 F0 H0 F0 H0 := Sx.refl0 hE
   unfold Za6 at hm
   refine Zaf <| Zal <| Zgr <| Zgz <| Ze5 <| rd_v rfl <| Ze4 (Zhv) <| Zaa <| rd_c <| Zac ?_
   refine rd_mSS ?_
   refine rd_b ?_
   refine if_b hm (fun b1 hm => ?_) (fun b1 hm => ?_)
   ·
    obtain ⟨t2,e3,hm⟩ := Zab hm
    refine Zaf <| Zak <| Zah <| Zaa <| rd_v rfl <| Zac ?_
    refine ⟨F0,_,t2,rfl,S.sub,e3,fun v7 F4 H5 c6 f8 => ?_⟩
    have S9 := S.call0 c6
    refine Zam <| Zaf <| Zal <| Zag <| Zad <| rd_v rfl <| rd_c ?_
    refine rd_isN (A := (qL qS)) f8 ?_
    refine rd_b ?_
    refine if_b hm (fun b10 hm => ?_) (fun b10 hm => ?_)
    ·
     cases hm
    ·
     obtain ⟨t11,e12,hm⟩ := Zab hm
     have f13 := qO_some f8 e12
     refine Zaj <| Zai ?_
     refine rd_makeRS ?_
     refine rd_v rfl ?_
     refine rd_st1 S9 f13 (fun vs14 row15 hl16 => ?_)
     obtain ⟨g17,hm⟩ := Zae hm
     obtain ⟨t18,e19,hm⟩ := Zab hm
     refine Zhg S9 row15 (by rw [hl16]; exact g17) e19 (fun v20 F21 H22 c23 f24 => ?_)
     have S25 := S9.call0 c23
     have f13 := f13.up c23
     have f26 : qPat.r K F21 v20 (Pat.form t18) := (show qPat.r K F21 v20 _ from f24)
     cases hm
     exact hQ _ _ _ S25 f26
   ·
    obtain ⟨g27,hm⟩ := Zae hm
    obtain ⟨t28,e29,hm⟩ := Zab hm
    refine Zaj <| Zaf <| Zak ?_
    refine Zel ?_
    refine rd_v rfl ?_
    refine Zdr ?_
    refine rd_c ?_
    refine rd_i ?_
    refine Zdr ?_
    refine rd_un <| rd_c <| rd_U ?_
    refine rd_i ?_
    refine Zeg g27 ?_
    refine Zam <| Zaf <| Zak <| Zah <| Zaa <| rd_v rfl <| Zac ?_
    refine ⟨F0,_,t28,rfl,S.sub,e29,fun v33 F30 H31 c32 f34 => ?_⟩
    have S35 := S.call0 c32
    refine Zam <| Zaf <| Zal <| Zkm <| Zgr <| Zgz <| Ze5 <| rd_v rfl <| Ze4 (Zhv) <| Zaa <| rd_c <| Zac ?_
    refine rd_mSS ?_
    refine rd_b ?_
    refine or_p (by intro _ Q' q; refine Zag ?_; refine Zad ?_; refine rd_v rfl ?_; refine rd_c ?_; refine rd_isN (A := qI) f34 ?_; refine rd_b ?_; exact q) ?_
    refine if_b hm (fun b36 hm => ?_) (fun b36 hm => ?_)
    ·
     cases hm
    ·
     obtain ⟨t37,e38,hm⟩ := Zab hm
     have f39 := qO_some f34 e38
     cases (show v33 = (V.int (t37)) from f39)
     obtain ⟨g40,hm⟩ := Zae hm
     obtain ⟨g41,hm⟩ := Zae hm
     obtain ⟨t43,e44,hm⟩ := Zab hm
     refine Zaj <| Zaf <| Zal <| Zkm <| Zag <| Zad ?_
     refine Zel ?_
     refine Zel ?_
     refine rd_v rfl ?_
     refine Zf3 ?_
     refine Zdr ?_
     refine rd_v rfl ?_
     refine rd_i ?_
     refine Zeg g40 ?_
     refine Zdr ?_
     refine rd_un <| rd_c <| rd_U ?_
     refine rd_i ?_
     refine Zf3 ?_
     refine Zeg g41 ?_
     refine rd_c <| Zc4 <| rd_b ?_
     refine or_j (fun c H' => c = t43 ∧ ∃ F',Sx P0 F30 H31 F' H') ?_ ?_ ?_
     ·
      intro b45 Q46 q47
      have e44 := if_f e44 b45
      have S48 := Sx.refl0 S35.sub
      obtain ⟨g49,e44⟩ := Zae e44
      cases e44
      refine Zag <| Zad ?_
      refine Zel ?_
      refine rd_v rfl ?_
      refine Zdr ?_
      refine Zad <| rd_v rfl <| rd_c <| Zax ?_
      refine rd_i ?_
      refine Zdr ?_
      refine Zad <| rd_v rfl <| rd_c <| Zax ?_
      refine rd_i ?_
      refine Zeg g49 ?_
      refine rd_c <| Zc4 <| rd_b ?_
      exact q47 _ _ ⟨rfl,F30,S48⟩
     ·
      intro b45
      have e44 := if_t e44 b45
      cases e44
      have S50 := Sx.refl0 S35.sub
      exact ⟨rfl,F30,S50⟩
     rintro b54 H52 ⟨rfl,F51,c53⟩
     have S55 := S35.call0 c53
     refine if_b hm (fun b56 hm => ?_) (fun b56 hm => ?_)
     ·
      cases hm
     ·
      obtain ⟨g57,hm⟩ := Zae hm
      obtain ⟨t58,e59,hm⟩ := Zab hm
      refine Zaj <| Zaf <| Zak <| Zah <| Zaa ?_
      refine Zel ?_
      refine rd_v rfl ?_
      refine Zf3 ?_
      refine Zdr ?_
      refine Zad <| rd_v rfl <| rd_c <| Zax ?_
      refine rd_i ?_
      refine Zeg g57 ?_
      refine Zaa <| rd_v rfl <| Zac ?_
      refine ⟨F51,_,_,t58,rfl,S55.sub,e59,fun v63 F60 H61 c62 f64 => ?_⟩
      have S65 := S55.call0 c62
      obtain ⟨g66,hm⟩ := Zae hm
      obtain ⟨t67,e68,hm⟩ := Zab hm
      refine Zam <| Zaf <| Zak <| Zah <| Zaa ?_
      refine Zel ?_
      refine rd_v rfl ?_
      refine Zdr ?_
      refine Zad <| rd_v rfl <| rd_c <| Zax ?_
      refine rd_i ?_
      refine Zf3 ?_
      refine Zeg g66 ?_
      refine Zaa <| rd_v rfl <| Zac ?_
      refine ⟨F60,_,_,t67,rfl,S65.sub,e68,fun v72 F69 H70 c71 f73 => ?_⟩
      have S74 := S65.call0 c71
      have f64 := f64.up c71
      obtain ⟨t75,e76,hm⟩ := Zab hm
      obtain ⟨t77,e78,hm⟩ := Zab hm
      refine Zam <| Zai ?_
      refine rd_ifE ?_
      refine Zag <| Zad <| Zad <| rd_v rfl <| rd_v rfl ?_
      refine Zh7 e76 ?_
      refine rd_c <| Zc4 <| rd_b ?_
      refine ifE_j (fun c H' => ∃ F',qPat.r K F' c t77 ∧ Sx P0 F69 H70 F' H') ?_ ?_ ?_
      ·
       intro b79 Q80 q81
       have hm82 := if_t e78 b79
       have S83 := Sx.refl0 S74.sub
       obtain ⟨t84,e85,hm82⟩ := Zab hm82
       refine Zad <| rd_v rfl <| rd_v rfl ?_
       refine pat_and T.pf S83 f64 f73 ?_
       refine ⟨F69,_,_,_,_,t84,rfl,S83.sub,f64,f73,e85,fun v89 F86 H87 c88 f90 => ?_⟩
       have S91 := S83.call0 c88
       obtain ⟨f64,f73⟩ := up2 f64 f73 c88
       cases hm82
       exact q81 _ _ ⟨F86,f90,S91⟩
      ·
       intro b92 Q93 q94
       have hm95 := if_f e78 b92
       have S96 := Sx.refl0 S74.sub
       obtain ⟨t97,e98,hm95⟩ := Zab hm95
       refine Zad <| rd_v rfl <| rd_v rfl ?_
       refine pat_or T.pf S96 f64 f73 ?_
       refine ⟨F69,_,_,_,_,t97,rfl,S96.sub,f64,f73,e98,fun v102 F99 H100 c101 f103 => ?_⟩
       have S104 := S96.call0 c101
       obtain ⟨f64,f73⟩ := up2 f64 f73 c101
       cases hm95
       exact q94 _ _ ⟨F99,f103,S104⟩
      rintro v108 H106 ⟨F105,f109,c107⟩
      have S110 := S74.call0 c107
      obtain ⟨f64,f73⟩ := up2 f64 f73 c107
      cases hm
      exact hQ _ _ _ S110 f109
def Ziv (K : PySem.W.Frag) : Sp := fun vs H Q _ => ∃ (F : Hp) (a_text : Str) (r : Pat),vs = [(V.str (a_text))] ∧ Same F H ∧ Zbj a_text = some r ∧ ∀ v F' H',Sx P0 F H F' H' → qPat.r K F' v r → Q v H'
theorem sc_read_pattern : FnScope ["text","why"] ["text"] (defScope Zck) := ⟨rfl,rfl,rfl,by decide +kernel,rfl,by decide +kernel,by decide +kernel⟩
theorem Zgf (T : Tx K mg) : Binds K (fdOf K ("read_pattern",none)) ["text"] [] := FunD.bindsN T.F_read_pattern fun _ _ _ _ _ _ us hl => match us,hl with | [_],_ => rfl
theorem Zf8 (T : Tx K mg) : FnOk P w K mg base CX0 12 (He.ga K "read_pattern") (fdOf K ("read_pattern",none)) ["text"] (Ziv K) := by
 refine FunD.ok T.F_read_pattern sc_read_pattern (fun vs H0 Q E h => ?_) (fun cdv A outer s H0 vs Q E hr h => ?_)
 ·
  obtain ⟨_,_,_,rfl,_⟩ := h
  rfl
 ·
  obtain ⟨F0,a_text,r,rfl,hE,hm,hQ⟩ := h
  refine ⟨_,PSs.nox ((pss_cons (ps_if (PW.pt (pw_or (pt_not (pt_val (pe_callB (r := rIsi K) call_isi (by rfl) T.n_isinstance (by decide +kernel) (pa_cons (pv 0) (pa_cons (pe_bltn (v := V.ty "str") (by rfl) T.n_str (by decide +kernel) rfl) pa_nil))))) (pw_or1 (pt_cmpR op_ge (Zcv (K := K) PySem.F.plainAttrs_str PySem.F.slot_str_count PySem.F.type_str_count mt_count (pv 0) (pa_cons pe_str pa_nil)) (pe_glob (v := V.int 3) (by rfl) (T.k_MOST_FORMS.choose_spec) ⟨_,rfl⟩) (nomark _))))) (pss_one Zf5) pss_nil) (pss_one (ps_tryK (i := 1) rfl rfl sc_read_pattern.nd rfl rfl ⟨by rfl,by decide,.inl T.gx_NoForm⟩ takesF (fun W pn xe tk own => (pss_one (ps_ret (pe_call (Zkr T 3) (hr.mono (by decide)) (by rfl) T.g_pattern_of T.F_pattern_of.kp (Zft T) .nil pass0 (pa_cons (pv 0) (pa_cons (pv 0) pa_nil)))))) (fun a oe cls d pn hz hf => pss_never))))),?_⟩
  have S : Sx P0 F0 H0 F0 H0 := Sx.refl0 hE
  unfold Zbj at hm
  refine Zaf <| Zal <| Zkm <| Zgr <| Zgz <| Zay <| Zaa <| rd_v rfl <| Zaa <| rd_c <| Zac ?_
  refine rd_isi (b := true) tx_str (by decide +kernel) ?_
  refine rd_b <| if_ff <| Zag <| Zad <| Ze5 <| rd_v rfl <| Ze4 (Zhv) <| Zaa <| rd_c <| Zac ?_
  refine rd_mSS ?_
  refine rd_c <| Zax <| rd_b ?_
  refine if_b hm (fun b1 hm => ?_) (fun b1 hm => ?_)
  ·
   cases hm
  ·
   obtain ⟨t2,e3,hm⟩ := Zab hm
   refine Zaj ?_
   refine rd_try ?_
   refine Zai <| Zah <| Zaa <| rd_v rfl <| Zaa <| rd_v rfl <| Zac ?_
   refine ⟨F0,_,_,t2,rfl,S.sub,e3,fun v7 F4 H5 c6 f8 => ?_⟩
   have S9 := S.call0 c6
   cases hm
   exact hQ _ _ _ S9 f8
def Zc7 (K : PySem.W.Frag) : Sp := fun vs H Q _ => ∃ (F : Hp) (v_self : V) (a_self : Pat) (v_other : V) (a_other : Pat) (r : Bool),vs = [v_self,v_other] ∧ Same F H ∧ qPat.r K F v_self a_self ∧ qPat.r K F v_other a_other ∧ Zbc a_self a_other = some r ∧ ∀ v F' H',Sx P0 F H F' H' → qB.r K F' v r → Q v H'
theorem Zhy : FnScope ["self","other"] ["self","other"] (defScope Zbv) := ⟨rfl,rfl,rfl,by decide +kernel,rfl,by decide +kernel,by decide +kernel⟩
theorem Zff (T : Tx K mg) : Binds K (fdOf K ("Pattern",some "__eq__")) ["self","other"] [] := FunD.bindsN T.F_Pattern___eq__ fun _ _ _ _ _ _ us hl => match us,hl with | [_,_],_ => rfl
theorem Ze8 (T : Tx K mg) : FnOk P w K mg base CX0 13 (He.fAd K ("Pattern",some "__eq__")) (fdOf K ("Pattern",some "__eq__")) ["self","other"] (Zc7 K) := by
 refine FunD.ok T.F_Pattern___eq__ Zhy (fun vs H0 Q E h => ?_) (fun cdv A outer s H0 vs Q E hr h => ?_)
 ·
  obtain ⟨_,_,_,_,_,_,rfl,_⟩ := h
  rfl
 ·
  obtain ⟨F0,v_self,a_self,v_other,a_other,r,rfl,hE,f_self,f_other,hm,hQ⟩ := h
  refine ⟨_,PSs.nox ((pss_one (ps_ret (pe_and (pe_callB (r := rIsi K) call_isi (by rfl) T.n_isinstance (by decide +kernel) (pa_cons (pv 1) (pa_cons (pe_glob (v := V.ref (He.ga K "Pattern")) (by rfl) T.gc_Pattern rfl) pa_nil))) (pe_one (pe_cmpR Zb1 (pe_callTy (r := Zkp P w K mg base 10) (Zg6 (hr.mono (by decide))) (by rfl) T.n_str (by decide +kernel) (pa_cons (pv 0) pa_nil)) (pe_callTy (r := Zkp P w K mg base 10) (Zg6 (hr.mono (by decide))) (by rfl) T.n_str (by decide +kernel) (pa_cons (pv 1) pa_nil)) (nomark _))))))),?_⟩
  have S : Sx P0 F0 H0 F0 H0 := Sx.refl0 hE
  unfold Zbc at hm
  refine Zai <| Zf4 <| Zay <| Zaa <| rd_v rfl <| Zaa <| rd_c <| Zac ?_
  refine Zko T.pf S f_other ?_
  refine rd_b <| if_tt <| Zad <| Zay <| Zaa <| rd_v rfl <| Zac ?_
  refine VM.strW (vm_str T 3) S f_self ?_
  obtain ⟨t1,e2,hm⟩ := Zab hm
  refine ⟨F0,_,_,t1,rfl,S.sub,f_self,rfl,e2,fun v6 F3 H4 c5 f7 => ?_⟩
  have S8 := S.call0 c5
  obtain ⟨f_self,f_other⟩ := up2 f_self f_other c5
  cases (show v6 = (V.str (t1)) from f7)
  refine Zi3 ?_
  refine Zay <| Zaa <| rd_v rfl <| Zac ?_
  refine VM.strW (vm_str T 3) S8 f_other ?_
  obtain ⟨t9,e10,hm⟩ := Zab hm
  refine ⟨F3,_,_,t9,rfl,S8.sub,f_other,rfl,e10,fun v14 F11 H12 c13 f15 => ?_⟩
  have S16 := S8.call0 c13
  obtain ⟨f_self,f_other⟩ := up2 f_self f_other c13
  cases (show v14 = (V.str (t9)) from f15)
  cases hm
  refine Zi3 ?_
  refine Zc4 ?_
  exact hQ _ _ _ S16 rfl
def Zjo (K : PySem.W.Frag) : Sp := fun vs H Q _ => ∃ (F : Hp) (p_pool_here : Addr) (a_pool_here : Int × Int) (a_line_here : Str) (r : (Str × (Int × Int))),vs = [.ref p_pool_here,(V.str (a_line_here))] ∧ Same F H ∧ Ow (fun a => a = p_pool_here) H F H p_pool_here (.lst [.int a_pool_here.1,.int a_pool_here.2]) ∧ Zc2 a_pool_here a_line_here = some r ∧ ∀ v F' H',Sx (fun a => a = p_pool_here) F H F' H' → Ow (fun a => a = p_pool_here) H F' H' p_pool_here (.lst [.int r.2.1,.int r.2.2]) → qS.r K F' v r.1 → Q v H'
theorem sc_law_spoiled : FnScope ["_law_pool_here","_law_line_here","_law_at","_law_sign","_law_way"] ["_law_pool_here","_law_line_here"] (defScope Zcy) := ⟨rfl,rfl,rfl,by decide +kernel,rfl,by decide +kernel,by decide +kernel⟩
theorem Zj0 (T : Tx K mg) : Binds K (fdOf K ("_law_spoiled",none)) ["_law_pool_here","_law_line_here"] [] := FunD.bindsN T.F_law_spoiled fun _ _ _ _ _ _ us hl => match us,hl with | [_,_],_ => rfl
theorem Zjv (T : Tx K mg) : FnOk P w K mg base CX0 2 (He.ga K "_law_spoiled") (fdOf K ("_law_spoiled",none)) ["_law_pool_here","_law_line_here"] (Zjo K) := by
 refine FunD.ok T.F_law_spoiled sc_law_spoiled (fun vs H0 Q E h => ?_) (fun cdv A outer s H0 vs Q E hr h => ?_)
 ·
  obtain ⟨_,_,_,_,_,rfl,_⟩ := h
  rfl
 ·
  obtain ⟨F0,p_pool_here,a_pool_here,a_line_here,r,rfl,hE,w_pool_here,hm,hQ⟩ := h
  refine ⟨_,PSs.nox ((pss_cons (ps_set (i := 2) sc_law_spoiled.nd rfl (dk rfl) (pe_call (Zar T) (hr.mono (by decide)) (by rfl) T.g_law_take T.F_law_take.kp (Zat T) .nil pass0 (pa_cons (pv 0) (pa_cons (pe_op op_add (pe_callB Zeu (by rfl) T.n_len (by decide +kernel) (pa_cons (pv 1) pa_nil)) pe_int) pa_nil)))) (pss_cons (ps_set (i := 3) sc_law_spoiled.nd rfl (dk rfl) (pe_ix ix_str (pe_call0 (Zfx T) (hr.mono (by decide)) (by rfl) T.g_law_all_signs T.F_law_all_signs.kp (Zfz T) .nil pass0) (pe_call (Zar T) (hr.mono (by decide)) (by rfl) T.g_law_take T.F_law_take.kp (Zat T) .nil pass0 (pa_cons (pv 0) (pa_cons pe_int pa_nil))) (fun _ _ => rfl))) (pss_cons (ps_set (i := 4) sc_law_spoiled.nd rfl (dk rfl) (pe_call (Zar T) (hr.mono (by decide)) (by rfl) T.g_law_take T.F_law_take.kp (Zat T) .nil pass0 (pa_cons (pv 0) (pa_cons pe_int pa_nil)))) (pss_cons (ps_if (pt_cmpR Zc5 (pv 4) pe_int (nomark _)) (pss_one (ps_ret (pe_op Zb9 (pe_op Zb9 (pe_slice sl_str (pv 1) po_none (po_some (pv 2))) (pv 3)) (pe_slice sl_str (pv 1) (po_some (pv 2)) po_none)))) pss_nil) (pss_cons (ps_if (pt_cmpR Zc5 (pv 4) pe_int (nomark _)) (pss_one (ps_ret (pe_op Zb9 (pe_slice sl_str (pv 1) po_none (po_some (pv 2))) (pe_slice sl_str (pv 1) (po_some (pe_op op_add (pv 2) pe_int)) po_none)))) pss_nil) (pss_cons (ps_if (pt_cmpR Zc5 (pv 4) pe_int (nomark _)) (pss_one (ps_ret (pe_op Zb9 (pe_op Zb9 (pe_slice sl_str (pv 1) po_none (po_some (pv 2))) (pv 3)) (pe_slice sl_str (pv 1) (po_some (pe_op op_add (pv 2) pe_int)) po_none)))) pss_nil) (pss_one (ps_ret (pv 1)))))))))),?_⟩
  have S : Sx (fun a => a = p_pool_here) F0 H0 F0 H0 := Sx.refl hE (Zjy w_pool_here)
  unfold Zc2 at hm
  obtain ⟨g1,hm⟩ := Zae hm
  obtain ⟨t2,e3,hm⟩ := Zab hm
  refine Zaf <| Zak <| Zah <| Zaa <| rd_v rfl <| Zaa <| Zad <| Zay <| Zaa <| rd_v rfl <| Zac ?_
  refine Zem g1 ?_
  refine rd_c <| Zax <| Zac ?_
  refine ⟨F0,_,_,_,t2,rfl,S.sub,w_pool_here.arg,e3,fun v7 F4 H5 c6 w9 f8 => ?_⟩
  have S10 := S.call1 c6 w_pool_here
  have w11 := w_pool_here.back w9
  cases (show v7 = (V.int (t2.1)) from f8)
  obtain ⟨t12,e13,hm⟩ := Zab hm
  refine Zam <| Zaf <| Zak <| Zad <| Zah <| Zac ?_
  refine ⟨F4,t12,rfl,S10.sub,e13,fun v17 F14 H15 c16 f18 => ?_⟩
  have S19 := S10.call0 c16
  have w11 := w11.call0 c16
  cases (show v17 = (V.str (t12)) from f18)
  obtain ⟨t20,e21,hm⟩ := Zab hm
  refine Zah <| Zaa <| rd_v rfl <| Zaa <| rd_c <| Zac ?_
  refine ⟨F14,_,_,_,t20,rfl,S19.sub,w11.arg,e21,fun v25 F22 H23 c24 w27 f26 => ?_⟩
  have S28 := S19.call1 c24 w11
  have w29 := w11.back w27
  cases (show v25 = (V.int (t20.1)) from f26)
  obtain ⟨t30,e31,hm⟩ := Zab hm
  obtain ⟨t32,e33,hm⟩ := Zab hm
  refine Zh7 e31 ?_
  refine Zam <| Zaf <| Zak <| Zah <| Zaa <| rd_v rfl <| Zaa <| rd_c <| Zac ?_
  refine ⟨F22,_,_,_,t32,rfl,S28.sub,w29.arg,e33,fun v37 F34 H35 c36 w39 f38 => ?_⟩
  have S40 := S28.call1 c36 w29
  have w41 := w29.back w39
  cases (show v37 = (V.int (t32.1)) from f38)
  refine Zam <| Zaf <| Zal <| Zag <| Zad <| rd_v rfl <| rd_c <| Zax <| rd_b ?_
  refine if_b hm (fun b42 hm => ?_) (fun b42 hm => ?_)
  ·
   obtain ⟨g43,hm⟩ := Zae hm
   obtain ⟨g44,hm⟩ := Zae hm
   obtain ⟨g45,hm⟩ := Zae hm
   obtain ⟨g46,hm⟩ := Zae hm
   cases hm
   refine Zai <| Zad <| Zad ?_
   refine Zel ?_
   refine rd_v rfl ?_
   refine Zf3 ?_
   refine Zdr ?_
   refine rd_v rfl ?_
   refine rd_i ?_
   refine Zeg g43 ?_
   refine rd_v rfl ?_
   refine Zb7 g44 ?_
   refine Zel ?_
   refine rd_v rfl ?_
   refine Zdr ?_
   refine rd_v rfl ?_
   refine rd_i ?_
   refine Zf3 ?_
   refine Zeg g45 ?_
   refine Zb7 g46 ?_
   exact hQ _ _ _ S40 w41 rfl
  ·
   refine Zaj <| Zaf <| Zal <| Zag <| Zad <| rd_v rfl <| rd_c <| Zax <| rd_b ?_
   refine if_b hm (fun b47 hm => ?_) (fun b47 hm => ?_)
   ·
    obtain ⟨g48,hm⟩ := Zae hm
    obtain ⟨g49,hm⟩ := Zae hm
    obtain ⟨g50,hm⟩ := Zae hm
    cases hm
    refine Zai <| Zad ?_
    refine Zel ?_
    refine rd_v rfl ?_
    refine Zf3 ?_
    refine Zdr ?_
    refine rd_v rfl ?_
    refine rd_i ?_
    refine Zeg g48 ?_
    refine Zel ?_
    refine rd_v rfl ?_
    refine Zdr ?_
    refine Zad <| rd_v rfl <| rd_c <| Zax ?_
    refine rd_i ?_
    refine Zf3 ?_
    refine Zeg g49 ?_
    refine Zb7 g50 ?_
    exact hQ _ _ _ S40 w41 rfl
   ·
    refine Zaj <| Zaf <| Zal <| Zag <| Zad <| rd_v rfl <| rd_c <| Zax <| rd_b ?_
    refine if_b hm (fun b51 hm => ?_) (fun b51 hm => ?_)
    ·
     obtain ⟨g52,hm⟩ := Zae hm
     obtain ⟨g53,hm⟩ := Zae hm
     obtain ⟨g54,hm⟩ := Zae hm
     obtain ⟨g55,hm⟩ := Zae hm
     cases hm
     refine Zai <| Zad <| Zad ?_
     refine Zel ?_
     refine rd_v rfl ?_
     refine Zf3 ?_
     refine Zdr ?_
     refine rd_v rfl ?_
     refine rd_i ?_
     refine Zeg g52 ?_
     refine rd_v rfl ?_
     refine Zb7 g53 ?_
     refine Zel ?_
     refine rd_v rfl ?_
     refine Zdr ?_
     refine Zad <| rd_v rfl <| rd_c <| Zax ?_
     refine rd_i ?_
     refine Zf3 ?_
     refine Zeg g54 ?_
     refine Zb7 g55 ?_
     exact hQ _ _ _ S40 w41 rfl
    ·
     cases hm
     refine Zaj <| Zai <| rd_v rfl ?_
     exact hQ _ _ _ S40 w41 rfl
def Zkf (K : PySem.W.Frag) : Sp := fun vs H Q _ => ∃ (F : Hp) (v_self : V) (a_self : (List Str)) (v_truths : V) (a_truths : (List Bool)) (r : Bool),vs = [v_self,v_truths] ∧ Same F H ∧ qForm.r K F v_self a_self ∧ (qL qB).r K F v_truths a_truths ∧ Zia a_self a_truths = some r ∧ ∀ v F' H',Sx P0 F H F' H' → qB.r K F' v r → Q v H'
theorem Zki : FnScope ["self","truths"] ["self","truths"] (defScope Zdl) := ⟨rfl,rfl,rfl,by decide +kernel,rfl,by decide +kernel,by decide +kernel⟩
theorem Zhp (T : Tx K mg) : Binds K (fdOf K ("Form",some "holds")) ["self","truths"] [] := FunD.bindsN T.F_Form_holds fun _ _ _ _ _ _ us hl => match us,hl with | [_,_],_ => rfl
theorem Zkt (T : Tx K mg) : FnOk P w K mg base CX0 1 (He.fAd K ("Form",some "holds")) (fdOf K ("Form",some "holds")) ["self","truths"] (Zkf K) := by
 refine FunD.ok T.F_Form_holds Zki (fun vs H0 Q E h => ?_) (fun cdv A outer s H0 vs Q E hr h => ?_)
 ·
  obtain ⟨_,_,_,_,_,_,rfl,_⟩ := h
  rfl
 ·
  obtain ⟨F0,v_self,a_self,v_truths,a_truths,r,rfl,hE,f_self,f_truths,hm,hQ⟩ := h
  refine ⟨_,PSs.nox ((pss_one (ps_ret (pe_ix (r := rIxL K) ix_list (pv 1) pe_int (fun _ _ => rfl))))),?_⟩
  have S : Sx P0 F0 H0 F0 H0 := Sx.refl0 hE
  unfold Zia at hm
  obtain ⟨t1,e2,hm⟩ := Zab hm
  refine Zai <| Zad <| rd_v rfl <| rd_c ?_
  refine Zbp (S.l f_truths).r e2 (fun u3 f4 => ?_)
  cases (show u3 = (V.bl (t1)) from f4)
  cases hm
  exact hQ _ _ _ S rfl
theorem Zgu (T : Tx K mg) (n : Nat) : FnOk P w K mg base CX0 (n + 1) (He.fAd K ("Form",some "holds")) (fdOf K ("Form",some "holds")) ["self","truths"] (Zbo n "Form" K) := by
 refine ((Zkt T).mono (by omega)).imp fun vs H0 Q E h => ?_
 obtain ⟨F0,v,a,vt,t,r,rfl,hE,f,hc,ft,hm,hQ⟩ := h
 obtain ⟨h1,h2,h3⟩ := Zby hm
 cases a with
  | both _ _ => exact absurd (show ("Both" : Str) = "Form" from hc) (by decide)
  | either _ _ => exact absurd (show ("Either" : Str) = "Form" from hc) (by decide)
  | form a =>
  exact ⟨F0,v,a,vt,t,r,rfl,hE,f,ft,(show ((atI t 0).bind fun t1 => some t1) = some r by rw [show atI t 0 = some r from h3]; rfl),hQ⟩
theorem sc_Both_holds : FnScope ["self","truths","middle"] ["self","truths"] (defScope Zdn) := ⟨rfl,rfl,rfl,by decide +kernel,rfl,by decide +kernel,by decide +kernel⟩
theorem Zht (T : Tx K mg) : Binds K (fdOf K ("Both",some "holds")) ["self","truths"] [] := FunD.bindsN T.F_Both_holds fun _ _ _ _ _ _ us hl => match us,hl with | [_,_],_ => rfl
theorem Zjt (T : Tx K mg) {n : Nat} (V : VM P w K mg base (n + 1) "holds" ["self","truths"] (fun x => Zbo n x K)) : FnOk P w K mg base CX0 (n + 2) (He.fAd K ("Both",some "holds")) (fdOf K ("Both",some "holds")) ["self","truths"] (Zbo (n + 1) "Both" K) := by
 have VF : VM P w K mg base (n + 1) "forms" ["self"] (fun x => Za4 n x K) := Zdx T n
 refine FunD.ok T.F_Both_holds sc_Both_holds (fun vs H0 Q E h => ?_) (fun cdv A outer s H0 vs Q E hr h => ?_)
 ·
  obtain ⟨_,_,_,_,_,_,rfl,_⟩ := h
  rfl
 ·
  obtain ⟨F0,v,a,vt,t,r,rfl,hE,f,hc,ft,hm,hQ⟩ := h
  obtain ⟨h1,h2,h3⟩ := Zby hm
  cases a with
  | form _ => exact absurd (show ("Form" : Str) = "Both" from hc) (by decide)
  | either _ _ => exact absurd (show ("Either" : Str) = "Both" from hc) (by decide)
  | both l r' =>
  obtain ⟨p,dx,u,w',rfl,e2,rl,rr⟩ := (show Zg2 K F0 v (.both l r') from f)
  replace rl : qPat.r K F0 u l := rl
  replace rr : qPat.r K F0 w' r' := rr
  have hl : l.ht ≤ n ∧ r'.ht ≤ n := by
   have h1 : max l.ht r'.ht + 1 ≤ n + 1 := h1
   omega
  have hf : l.forms.length + r'.forms.length ≤ 16 := by
   have h2 : (l.forms ++ r'.forms).length ≤ 16 := h2
   rw [List.length_append] at h2
   exact h2
  obtain ⟨b,eb,h3⟩ := Zab (show ((l.holds (cut t none (some (l.forms.length : Int)))).bind fun b => if b = true then r'.holds (cut t (some (l.forms.length : Int)) none) else some false) = some r from h3)
  refine ⟨_,PSs.nox (pss_cons (ps_set (i := 2) sc_Both_holds.nd rfl (by first | exact Or.inl rfl | exact Or.inr rfl) (pe_callB (r := Zc9 K) Za3 (by rfl) T.n_len (by decide +kernel) (pa_cons (Zbx (E := E0) (Zcj (pv 0) rfl)) pa_nil))) (pss_one (ps_ret (pe_and (Zhb (E := E0) (Zcj (pv 0) rfl) (pa_cons (pe_slice (r := rSlL K) sl_list (pv 1) po_none (po_some (pv 2))) pa_nil)) (pe_one (Zhb (E := E0) (Zcj (pv 0) rfl) (pa_cons (pe_slice (r := rSlL K) sl_list (pv 1) (po_some (pv 2)) po_none) pa_nil))))))),?_⟩
  have S : Sx P0 F0 H0 F0 H0 := Sx.refl0 hE
  refine Zaf <| Zak <| Zay <| Zaa ?_
  refine Zbe ?_
  refine Zdw <| rd_v rfl ?_
  refine Zfs (S.sub _ _ e2) T.c_Both T.na_Both_left (by rfl) ?_
  refine VF.call (hr.mono (by omega)) S rl (kt := ?_)
  refine Zac ?_
  refine ⟨F0,_,_,_,rfl,S.sub,rl,rfl,Zb8 hl.1 (by omega),fun v1 F1 H1 c1 f1 => ?_⟩
  have S1 := S.call0 c1
  obtain ⟨rr,rl,ft⟩ := up3 rr rl ft c1
  refine Zac ?_
  refine Zbi (S1.l f1).r.q ?_
  refine Zam <| Zai <| Zf4 ?_
  refine Zbe ?_
  refine Zdw <| rd_v rfl ?_
  refine Zfs (S1.sub _ _ (S1.le _ _ e2)) T.c_Both T.na_Both_left (by rfl) ?_
  refine V.call (hr.mono (by omega)) S1 rl (kt := ?_)
  refine Zaa ?_
  refine Zel ?_
  refine rd_v rfl ?_
  refine Zf3 ?_
  refine Zdr ?_
  refine rd_v rfl ?_
  refine rd_i ?_
  refine Zj3 (S1.l ft).r ?_
  refine alL' S1 (fun v2 F2 H2 c2 f2 => ?_)
  have S2 := S1.call0 c2
  obtain ⟨rl,rr,ft⟩ := up3 rl rr ft c2
  refine Zac ?_
  refine ⟨F2,_,_,_,_,_,rfl,S2.sub,rl,rfl,f2,(Zb8 hl.1 (by omega)).trans eb,fun v4 F4 H4 c4 f4 => ?_⟩
  cases (show v4 = .bl b from f4)
  have S4 := S2.call0 c4
  obtain ⟨rr,ft⟩ := up2 rr ft c4
  refine rd_b ?_
  cases b with
  | true =>
   refine if_tt ?_
   refine Zbe ?_
   refine Zdw <| rd_v rfl ?_
   refine Zfs (S4.sub _ _ (S4.le _ _ e2)) T.c_Both T.na_Both_right (by rfl) ?_
   refine V.call (hr.mono (by omega)) S4 rr (kt := ?_)
   refine Zaa ?_
   refine Zel ?_
   refine rd_v rfl ?_
   refine Zdr ?_
   refine rd_v rfl ?_
   refine rd_i ?_
   refine Zf3 ?_
   refine Zj3 (S4.l ft).r ?_
   refine alL' S4 (fun v5 F5 H5 c5 f5 => ?_)
   have S5 := S4.call0 c5
   have rr := rr.up c5
   refine Zac ?_
   refine ⟨F5,_,_,_,_,_,rfl,S5.sub,rr,rfl,f5,(Zb8 hl.2 (by omega)).trans h3,fun v6 F6 H6 c6 f6 => ?_⟩
   cases (show v6 = .bl r from f6)
   exact hQ _ _ _ (S5.call0 c6) rfl
  | false =>
   cases (show some false = some r from h3)
   exact hQ _ _ _ S4 rfl
theorem sc_Either_holds : FnScope ["self","truths","middle"] ["self","truths"] (defScope Zcm) := ⟨rfl,rfl,rfl,by decide +kernel,rfl,by decide +kernel,by decide +kernel⟩
theorem Zgk (T : Tx K mg) : Binds K (fdOf K ("Either",some "holds")) ["self","truths"] [] := FunD.bindsN T.F_Either_holds fun _ _ _ _ _ _ us hl => match us,hl with | [_,_],_ => rfl
theorem Zil (T : Tx K mg) {n : Nat} (V : VM P w K mg base (n + 1) "holds" ["self","truths"] (fun x => Zbo n x K)) : FnOk P w K mg base CX0 (n + 2) (He.fAd K ("Either",some "holds")) (fdOf K ("Either",some "holds")) ["self","truths"] (Zbo (n + 1) "Either" K) := by
 have VF : VM P w K mg base (n + 1) "forms" ["self"] (fun x => Za4 n x K) := Zdx T n
 refine FunD.ok T.F_Either_holds sc_Either_holds (fun vs H0 Q E h => ?_) (fun cdv A outer s H0 vs Q E hr h => ?_)
 ·
  obtain ⟨_,_,_,_,_,_,rfl,_⟩ := h
  rfl
 ·
  obtain ⟨F0,v,a,vt,t,r,rfl,hE,f,hc,ft,hm,hQ⟩ := h
  obtain ⟨h1,h2,h3⟩ := Zby hm
  cases a with
  | form _ => exact absurd (show ("Form" : Str) = "Either" from hc) (by decide)
  | both _ _ => exact absurd (show ("Both" : Str) = "Either" from hc) (by decide)
  | either l r' =>
  obtain ⟨p,dx,u,w',rfl,e2,rl,rr⟩ := (show Zg2 K F0 v (.either l r') from f)
  replace rl : qPat.r K F0 u l := rl
  replace rr : qPat.r K F0 w' r' := rr
  have hl : l.ht ≤ n ∧ r'.ht ≤ n := by
   have h1 : max l.ht r'.ht + 1 ≤ n + 1 := h1
   omega
  have hf : l.forms.length + r'.forms.length ≤ 16 := by
   have h2 : (l.forms ++ r'.forms).length ≤ 16 := h2
   rw [List.length_append] at h2
   exact h2
  obtain ⟨b,eb,h3⟩ := Zab (show ((l.holds (cut t none (some (l.forms.length : Int)))).bind fun b => if b = true then some true else r'.holds (cut t (some (l.forms.length : Int)) none)) = some r from h3)
  refine ⟨_,PSs.nox (pss_cons (ps_set (i := 2) sc_Either_holds.nd rfl (by first | exact Or.inl rfl | exact Or.inr rfl) (pe_callB (r := Zc9 K) Za3 (by rfl) T.n_len (by decide +kernel) (pa_cons (Zbx (E := E0) (Zcj (pv 0) rfl)) pa_nil))) (pss_one (ps_ret (pe_or (Zhb (E := E0) (Zcj (pv 0) rfl) (pa_cons (pe_slice (r := rSlL K) sl_list (pv 1) po_none (po_some (pv 2))) pa_nil)) (pe_one (Zhb (E := E0) (Zcj (pv 0) rfl) (pa_cons (pe_slice (r := rSlL K) sl_list (pv 1) (po_some (pv 2)) po_none) pa_nil))))))),?_⟩
  have S : Sx P0 F0 H0 F0 H0 := Sx.refl0 hE
  refine Zaf <| Zak <| Zay <| Zaa ?_
  refine Zbe ?_
  refine Zdw <| rd_v rfl ?_
  refine Zfs (S.sub _ _ e2) T.c_Either T.na_Either_left (by rfl) ?_
  refine VF.call (hr.mono (by omega)) S rl (kt := ?_)
  refine Zac ?_
  refine ⟨F0,_,_,_,rfl,S.sub,rl,rfl,Zb8 hl.1 (by omega),fun v1 F1 H1 c1 f1 => ?_⟩
  have S1 := S.call0 c1
  obtain ⟨rr,rl,ft⟩ := up3 rr rl ft c1
  refine Zac ?_
  refine Zbi (S1.l f1).r.q ?_
  refine Zam <| Zai <| rd_orV ?_
  refine Zbe ?_
  refine Zdw <| rd_v rfl ?_
  refine Zfs (S1.sub _ _ (S1.le _ _ e2)) T.c_Either T.na_Either_left (by rfl) ?_
  refine V.call (hr.mono (by omega)) S1 rl (kt := ?_)
  refine Zaa ?_
  refine Zel ?_
  refine rd_v rfl ?_
  refine Zf3 ?_
  refine Zdr ?_
  refine rd_v rfl ?_
  refine rd_i ?_
  refine Zj3 (S1.l ft).r ?_
  refine alL' S1 (fun v2 F2 H2 c2 f2 => ?_)
  have S2 := S1.call0 c2
  obtain ⟨rl,rr,ft⟩ := up3 rl rr ft c2
  refine Zac ?_
  refine ⟨F2,_,_,_,_,_,rfl,S2.sub,rl,rfl,f2,(Zb8 hl.1 (by omega)).trans eb,fun v4 F4 H4 c4 f4 => ?_⟩
  cases (show v4 = .bl b from f4)
  have S4 := S2.call0 c4
  obtain ⟨rr,ft⟩ := up2 rr ft c4
  refine rd_b ?_
  cases b with
  | true =>
   cases (show some true = some r from h3)
   exact hQ _ _ _ S4 rfl
  | false =>
   refine if_ff ?_
   refine Zbe ?_
   refine Zdw <| rd_v rfl ?_
   refine Zfs (S4.sub _ _ (S4.le _ _ e2)) T.c_Either T.na_Either_right (by rfl) ?_
   refine V.call (hr.mono (by omega)) S4 rr (kt := ?_)
   refine Zaa ?_
   refine Zel ?_
   refine rd_v rfl ?_
   refine Zdr ?_
   refine rd_v rfl ?_
   refine rd_i ?_
   refine Zf3 ?_
   refine Zj3 (S4.l ft).r ?_
   refine alL' S4 (fun v5 F5 H5 c5 f5 => ?_)
   have S5 := S4.call0 c5
   have rr := rr.up c5
   refine Zac ?_
   refine ⟨F5,_,_,_,_,_,rfl,S5.sub,rr,rfl,f5,(Zb8 hl.2 (by omega)).trans h3,fun v6 F6 H6 c6 f6 => ?_⟩
   cases (show v6 = .bl r from f6)
   exact hQ _ _ _ (S5.call0 c6) rfl
theorem Zgs {C : Str} (hC : C = "Both" ∨ C = "Either") : FnOk P w K mg base CX0 1 (He.fAd K (C,some "holds")) (fdOf K (C,some "holds")) ["self","truths"] (Zbo 0 C K) := by
 have no : ∀ vs H Q E,¬ Zbo 0 C K vs H Q E := by
  intro vs H Q E h
  obtain ⟨_,_,a,_,_,_,_,_,_,hc,_,hm,_⟩ := h
  obtain ⟨h1,_,_⟩ := Zby hm
  cases a with
  | form _ =>
   subst hc
   rcases hC with h | h
   ·
    exact absurd (show ("Form" : Str) = "Both" from h) (by decide)
   ·
    exact absurd (show ("Form" : Str) = "Either" from h) (by decide)
  | both l r => exact absurd (show max l.ht r.ht + 1 ≤ 0 from h1) (by omega)
  | either l r => exact absurd (show max l.ht r.ht + 1 ≤ 0 from h1) (by omega)
 exact ⟨fun vs H Q E h => absurd h (no vs H Q E),fun A outer s H args us vs Q E hr he hb hv h => absurd h (no vs H Q E)⟩
theorem vm_holds (T : Tx K mg) : ∀ n,VM P w K mg base (n + 1) "holds" ["self","truths"] (fun x => Zbo n x K)
 | 0 => ⟨fun x hx => by
  rcases hx with rfl | rfl | rfl
  ·
   exact ⟨T.c_Form,T.me_Form_holds,Zgu T 0,Zhp T⟩
  ·
   exact ⟨T.c_Both,T.me_Both_holds,Zgs (.inl rfl),Zht T⟩
  ·
   exact ⟨T.c_Either,T.me_Either_holds,Zgs (.inr rfl),Zgk T⟩⟩
 | n + 1 => ⟨fun x hx => by
  have V := vm_holds T n
  rcases hx with rfl | rfl | rfl
  ·
   exact ⟨T.c_Form,T.me_Form_holds,Zgu T (n + 1),Zhp T⟩
  ·
   exact ⟨T.c_Both,T.me_Both_holds,Zjt T V,Zht T⟩
  ·
   exact ⟨T.c_Either,T.me_Either_holds,Zil T V,Zgk T⟩⟩
def sp_cells_of (K : PySem.W.Frag) : Sp := fun vs H Q _ => ∃ (F : Hp) (v_parts : V) (a_parts : (List Str)) (r : (List Str)),vs = [v_parts] ∧ Same F H ∧ (qQ qS).r K F v_parts a_parts ∧ Zd3 a_parts = some r ∧ ∀ v F' H',Sx P0 F H F' H' → (qL qS).r K F' v r → Q v H'
theorem sc_cells_of : FnScope ["parts","cells","part"] ["parts"] (defScope Ze3) := ⟨rfl,rfl,rfl,by decide +kernel,rfl,by decide +kernel,by decide +kernel⟩
theorem bn_cells_of (T : Tx K mg) : Binds K (fdOf K ("cells_of",none)) ["parts"] [] := FunD.bindsN T.F_cells_of fun _ _ _ _ _ _ us hl => match us,hl with | [_],_ => rfl
theorem ok_cells_of (T : Tx K mg) : FnOk P w K mg base CX0 1 (He.ga K "cells_of") (fdOf K ("cells_of",none)) ["parts"] (sp_cells_of K) := by
 refine FunD.ok T.F_cells_of sc_cells_of (fun vs H0 Q E h => ?_) (fun cdv A outer s H0 vs Q E hr h => ?_)
 ·
  obtain ⟨_,_,_,_,rfl,_⟩ := h
  rfl
 ·
  obtain ⟨F0,v_parts,a_parts,r,rfl,hE,f_parts,hm,hQ⟩ := h
  refine ⟨_,PSs.nox ((pss_cons (ps_set (i := 1) sc_cells_of.nd rfl (dk rfl) (pe_lst pa_nil)) (pss_cons (ps_for PassesOwn.never rfl (pi_seq (pv 0)) (pg_name (i := 2) sc_cells_of.nd rfl (dk rfl)) (pss_one (ps_if (pt_cmpR (r := rIn K false) op_in_seq (pv 2) (pe_glob (v := V.ref (He.ga K "FREE_CELLS")) (by rfl) T.g_FREE_CELLS rfl) rfl) (pss_one (ps_expr (Zcv (K := K) PySem.F.plainAttrs_list PySem.F.slot_list_append PySem.F.type_list_append mt_append (pv 1) (pa_cons (pv 2) pa_nil)))) (pss_one (ps_expr (Zcv (K := K) PySem.F.plainAttrs_list PySem.F.slot_list_extend PySem.F.type_list_extend mt_extend (pv 1) (pa_cons (pe_callTy (cr_listS rfl) (by rfl) T.n_list (by decide +kernel) (pa_cons (pv 2) pa_nil)) pa_nil))))))) (pss_one (ps_ret (pv 1)))))),?_⟩
  have S : Sx P0 F0 H0 F0 H0 := Sx.refl0 hE
  unfold Zd3 at hm
  refine Zaf <| Zak <| Zcz <| Zac <| Zfg rfl ?_
  refine al S (fun p1 H2 np3 c4 w5 => ?_)
  have z7 := S.free0 np3
  have S8 := S.call0 c4
  have f_parts := f_parts.up c4
  refine Zam <| Zaf <| Zdv ?_
  refine rd_wSeq S8 f_parts (by intro _ k; exact rd_v rfl k) (fun J9 n10 G11 it12 fd13 ty14 hg15 => ?_)
  have r16 : Row qS K F0 [] ([] : List Str) := .nil
  obtain ⟨t17,e18,hm⟩ := Zab hm
  refine Zds fd13 ty14 e18 (fun (s19 : (List Str)) σ H => ∃ (F : Hp) (o2 : Option V) (vs0 : List V),σ = [some v_parts,some (V.ref p1),o2] ∧ Sx (fun a => a = p1) F0 H2 F H ∧ Ow (fun a => a = p1) H2 F H p1 (.lst vs0) ∧ Row qS K F vs0 s19) ?_ ?_ ?_ ?_
  ·
   rintro _ _ _ ⟨_,_,_,_,S20,_,_⟩
   exact (hg15 _ _ S20.le S20.sub)
  ·
   have S21 : Sx (fun a => a = p1) _ _ _ _ := Sx.refl S8.sub (fun a z => by rw [z,w5.at_]; exact (fun h => nomatch h))
   have w22 : Ow (fun a => a = p1) H2 _ _ _ _ := ⟨w5.fr,w5.at_,.inr (rfl)⟩
   exact ⟨F0,_,_,rfl,S21,w22,r16⟩
  ·
   rintro x23 v24 s25 c29 σ26 H27 f28 ⟨F30,o32,v33,rfl,S31,w34,r35⟩ hm38
   have f_parts := f_parts.up S31
   unfold Zfq at hm38
   cases (show v24 = (V.str (x23)) from f28)
   have f39 : (qT qS).r K F30 (.ref (He.ga K "FREE_CELLS")) (["<digits>","<word>","<any>"] : List Str) := T.q_FREE_CELLS _
   refine Zam <| Zal <| Zag <| Zad <| rd_v rfl <| rd_c ?_
   refine rd_inS (S31.t f39).q ?_
   refine rd_b ?_
   refine if_b hm38 (fun b40 hm38 => ?_) (fun b40 hm38 => ?_)
   ·
    obtain ⟨g41,hm38⟩ := Zae hm38
    refine Zc0 <| Ze5 <| rd_v rfl <| Ze4 w34.ty <| Zaa <| rd_v rfl <| Zac ?_
    refine ap S31 w34 r35 g41 (fun H42 c43 w44 => ?_)
    have r45 := r35.snoc (show qS.r K F30 _ x23 from rfl)
    have S46 := S31.call1 c43 w34
    have f_parts := f_parts.up c43
    have r45 := Row.mono c43.le r45
    cases hm38
    exact ⟨F30,_,_,rfl,S46,w44,r45⟩
   ·
    obtain ⟨g47,hm38⟩ := Zae hm38
    refine Zc0 <| Ze5 <| rd_v rfl <| Ze4 w34.ty <| Zaa <| Zay <| Zaa <| rd_v rfl <| Zac ?_
    refine rd_listS (K := K) (F := F30) g47 ?_
    refine alL' S31 (fun v48 F49 H50 c51 f52 => ?_)
    have S53 := S31.call0 c51
    have f_parts := f_parts.up c51
    have r35 := Row.mono c51.le r35
    have w34 := w34.call0 c51
    obtain ⟨g54,hm38⟩ := Zae hm38
    refine Zac ?_
    refine ex' S53 w34 r35 (S53.l f52) g54 (fun us55 H56 c57 w58 r59 => ?_)
    have S60 := S53.call1 c57 w34
    have f_parts := f_parts.up c57
    have r59 := Row.mono c57.le r59
    cases hm38
    exact ⟨F49,_,_,rfl,S60,w58,r59⟩
  ·
   rintro σ61 H62 ⟨F63,o65,v66,rfl,S64,w67,r68⟩
   have S69 := S8.call1 S64 w5
   have f_parts := f_parts.up S64
   have w70 : Ow P0 H0 _ _ _ _ := ⟨w67.fr,w67.at_,w5.mine⟩
   obtain ⟨F71,S72,le73,f74,_,eq75⟩ := fz S69 w70 z7 r68
   have f_parts := (qQ qS).mono le73 f_parts
   cases hm
   refine Zai <| rd_v rfl ?_
   exact hQ _ _ _ S72 f74
def sp_closed (K : PySem.W.Frag) : Sp := fun vs H Q _ => ∃ (F : Hp) (v_cells : V) (a_cells : (List Str)) (v_positions : V) (a_positions : (List Int)) (r : (List Int)),vs = [v_cells,v_positions] ∧ Same F H ∧ (qL qS).r K F v_cells a_cells ∧ (qQ qI).r K F v_positions a_positions ∧ Zgm a_cells a_positions = some r ∧ ∀ v F' H',Sx P0 F H F' H' → (qT qI).r K F' v r → Q v H'
theorem sc_closed : FnScope ["cells","positions","found","at"] ["cells","positions"] (defScope Zha) := ⟨rfl,rfl,rfl,by decide +kernel,rfl,by decide +kernel,by decide +kernel⟩
theorem bn_closed (T : Tx K mg) : Binds K (fdOf K ("closed",none)) ["cells","positions"] [] := FunD.bindsN T.F_closed fun _ _ _ _ _ _ us hl => match us,hl with | [_,_],_ => rfl
theorem ok_closed (T : Tx K mg) : FnOk P w K mg base CX0 1 (He.ga K "closed") (fdOf K ("closed",none)) ["cells","positions"] (sp_closed K) := by
 refine FunD.ok T.F_closed sc_closed (fun vs H0 Q E h => ?_) (fun cdv A outer s H0 vs Q E hr h => ?_)
 ·
  obtain ⟨_,_,_,_,_,_,rfl,_⟩ := h
  rfl
 ·
  obtain ⟨F0,v_cells,a_cells,v_positions,a_positions,r,rfl,hE,f_cells,f_positions,hm,hQ⟩ := h
  refine ⟨_,PSs.nox ((pss_cons (ps_set (i := 2) sc_closed.nd rfl (dk rfl) (pe_lst pa_nil)) (pss_cons (ps_for PassesOwn.never rfl (pi_range1 (by rfl) T.n_range (pa_cons (pe_op op_add (pe_callB (r := Zc9 K) Za3 (by rfl) T.n_len (by decide +kernel) (pa_cons (pv 0) pa_nil)) pe_int) pa_nil)) (pg_name (i := 3) sc_closed.nd rfl (dk rfl)) (pss_one (ps_if (PW.pt (pw_or (pt_cmpR (r := rIn K false) op_in_seq (pv 3) (pv 1) rfl) (pw_or1 (PW.pt (pw_and (pt_cmpR op_gt (pv 3) pe_int (nomark _)) (pw_and (pt_cmpR Zb1 (pe_ix (r := rIxL K) ix_list (pv 0) (pe_op op_sub (pv 3) pe_int) (fun _ _ => rfl)) (pe_glob (v := V.str "<any>") (by rfl) (T.k_ANY_CELL.choose_spec) ⟨_,rfl⟩) (nomark _)) (pw_and1 (pt_cmpR (r := rIn K false) op_in_seq (pe_op op_sub (pv 3) pe_int) (pv 2) rfl)))))))) (pss_one (ps_expr (Zcv (K := K) PySem.F.plainAttrs_list PySem.F.slot_list_append PySem.F.type_list_append mt_append (pv 2) (pa_cons (pv 3) pa_nil)))) pss_nil))) (pss_one (ps_ret (Zi7 (K := K) rfl (by rfl) T.n_tuple (pv 2))))))),?_⟩
  have S : Sx P0 F0 H0 F0 H0 := Sx.refl0 hE
  unfold Zgm at hm
  refine Zaf <| Zak <| Zcz <| Zac <| Zfg rfl ?_
  refine al S (fun p1 H2 np3 c4 w5 => ?_)
  have z7 := S.free0 np3
  have S8 := S.call0 c4
  obtain ⟨f_cells,f_positions⟩ := up2 f_cells f_positions c4
  obtain ⟨g9,hm⟩ := Zae hm
  refine Zam <| Zaf <| Zdv ?_
  refine Zi6 ?_
  refine Zaa <| Zad <| Zay <| Zaa <| rd_v rfl <| Zac ?_
  refine Zbi (S8.l f_cells).r.q ?_
  refine rd_c <| Zax <| Zac ?_
  refine rd_r1 g9 ?_
  have r10 : Row qI K F0 [] ([] : List Int) := .nil
  obtain ⟨t11,e12,hm⟩ := Zab hm
  refine Zds Zg5 (Ziu (K := K) (F := F0)) e12 (fun (s13 : (List Int)) σ H => ∃ (F : Hp) (o3 : Option V) (vs0 : List V),σ = [some v_cells,some v_positions,some (V.ref p1),o3] ∧ Sx (fun a => a = p1) F0 H2 F H ∧ Ow (fun a => a = p1) H2 F H p1 (.lst vs0) ∧ Row qI K F vs0 s13) ?_ ?_ ?_ ?_
  ·
   intro _ _ _ _; trivial
  ·
   have S15 : Sx (fun a => a = p1) _ _ _ _ := Sx.refl S8.sub (fun a z => by rw [z,w5.at_]; exact (fun h => nomatch h))
   have w16 : Ow (fun a => a = p1) H2 _ _ _ _ := ⟨w5.fr,w5.at_,.inr (rfl)⟩
   exact ⟨F0,_,_,rfl,S15,w16,r10⟩
  ·
   rintro x17 v18 s19 c23 σ20 H21 f22 ⟨F24,o26,v27,rfl,S25,w28,r29⟩ hm32
   obtain ⟨f_cells,f_positions⟩ := up2 f_cells f_positions S25
   unfold Zg3 at hm32
   cases (show v18 = (V.int (x17)) from f22)
   obtain ⟨t53,e54,hm32⟩ := Zab hm32
   refine Zam <| Zal <| Zkm <| Zag <| Zad <| rd_v rfl <| rd_v rfl ?_
   refine rd_inI (S25.q f_positions) ?_
   refine rd_b ?_
   refine or_j (fun c H' => c = t53 ∧ ∃ F',Sx P0 F24 H21 F' H') ?_ ?_ ?_
   ·
    intro b55 Q56 q57
    have e54 := if_f e54 b55
    have S58 := Sx.refl0 S25.sub
    obtain ⟨t63,e64,e54⟩ := Zab e54
    refine Zfw <| Zag <| Zad <| rd_v rfl <| rd_c <| Zax <| rd_b ?_
    refine and_j (fun c H' => c = t63 ∧ ∃ F',Sx P0 F24 H21 F' H') ?_ ?_ ?_
    ·
     intro b65 Q66 q67
     have e64 := if_t e64 b65
     have S68 := Sx.refl0 S58.sub
     obtain ⟨t69,e70,e64⟩ := Zab e64
     refine Zfw <| Zag <| Zad <| Zad <| rd_v rfl <| Zad <| rd_v rfl <| rd_c <| Zax ?_
     refine Zbp (S68.l f_cells).r e70 (fun u71 f72 => ?_)
     cases (show u71 = (V.str (t69)) from f72)
     cases e64
     refine rd_c <| Zc4 <| rd_b ?_
     refine and_p (by intro _ Q' q; refine Zag ?_; refine Zad ?_; refine Zad ?_; refine rd_v rfl ?_; refine rd_c ?_; refine Zax ?_; refine rd_v rfl ?_; refine rd_inI (w28.l r29).r.q ?_; refine rd_b ?_; exact q) ?_
     exact q67 _ _ ⟨rfl,F24,S68⟩
    ·
     intro b65
     have e64 := if_f e64 b65
     cases e64
     have S73 := Sx.refl0 S58.sub
     exact ⟨rfl,F24,S73⟩
    rintro b77 H75 ⟨rfl,F74,c76⟩
    have S78 := S58.call0 c76
    obtain ⟨f_cells,f_positions⟩ := up2 f_cells f_positions c76
    have r29 := Row.mono c76.le r29
    have w28 := w28.call0 c76
    cases e54
    exact q57 _ _ ⟨rfl,F74,S78⟩
   ·
    intro b55
    have e54 := if_t e54 b55
    cases e54
    have S79 := Sx.refl0 S25.sub
    exact ⟨rfl,F24,S79⟩
   rintro b83 H81 ⟨rfl,F80,c82⟩
   have S84 := S25.call0 c82
   obtain ⟨f_cells,f_positions⟩ := up2 f_cells f_positions c82
   have r29 := Row.mono c82.le r29
   have w28 := w28.call0 c82
   refine if_b hm32 (fun b85 hm32 => ?_) (fun b85 hm32 => ?_)
   ·
    obtain ⟨g86,hm32⟩ := Zae hm32
    refine Zc0 <| Ze5 <| rd_v rfl <| Ze4 w28.ty <| Zaa <| rd_v rfl <| Zac ?_
    refine ap S84 w28 r29 g86 (fun H87 c88 w89 => ?_)
    have r90 := r29.snoc (show qI.r K F80 _ x17 from rfl)
    have S91 := S84.call1 c88 w28
    obtain ⟨f_cells,f_positions⟩ := up2 f_cells f_positions c88
    have r90 := Row.mono c88.le r90
    cases hm32
    exact ⟨F80,_,_,rfl,S91,w89,r90⟩
   ·
    cases hm32
    refine Zaj ?_
    exact ⟨F80,_,_,rfl,S84,w28,r29⟩
  ·
   rintro σ92 H93 ⟨F94,o96,v97,rfl,S95,w98,r99⟩
   have S100 := S8.call1 S95 w5
   obtain ⟨f_cells,f_positions⟩ := up2 f_cells f_positions S95
   have w101 : Ow P0 H0 _ _ _ _ := ⟨w98.fr,w98.at_,w5.mine⟩
   refine Zai ?_
   refine rd_thn ?_
   refine rd_v rfl ?_
   refine rd_tuple (w101.l r99).r ?_
   refine alT' S100 (fun v102 F103 H104 c105 f106 => ?_)
   have S107 := S100.call0 c105
   obtain ⟨f_cells,f_positions⟩ := up2 f_cells f_positions c105
   have r99 := Row.mono c105.le r99
   have w101 := w101.call0 c105
   cases hm
   exact hQ _ _ _ S107 f106
def sp_started (K : PySem.W.Frag) : Sp := fun vs H Q _ => ∃ (F : Hp) (v_cells : V) (a_cells : (List Str)) (r : (List Int)),vs = [v_cells] ∧ Same F H ∧ (qL qS).r K F v_cells a_cells ∧ Zga a_cells = some r ∧ ∀ v F' H',Sx P0 F H F' H' → (qT qI).r K F' v r → Q v H'
theorem sc_started : FnScope ["cells"] ["cells"] (defScope Zf0) := ⟨rfl,rfl,rfl,by decide +kernel,rfl,by decide +kernel,by decide +kernel⟩
theorem bn_started (T : Tx K mg) : Binds K (fdOf K ("started",none)) ["cells"] [] := FunD.bindsN T.F_started fun _ _ _ _ _ _ us hl => match us,hl with | [_],_ => rfl
theorem ok_started (T : Tx K mg) : FnOk P w K mg base CX0 2 (He.ga K "started") (fdOf K ("started",none)) ["cells"] (sp_started K) := by
 refine FunD.ok T.F_started sc_started (fun vs H0 Q E h => ?_) (fun cdv A outer s H0 vs Q E hr h => ?_)
 ·
  obtain ⟨_,_,_,_,rfl,_⟩ := h
  rfl
 ·
  obtain ⟨F0,v_cells,a_cells,r,rfl,hE,f_cells,hm,hQ⟩ := h
  refine ⟨_,PSs.nox ((pss_one (ps_ret (pe_call (ok_closed T) (hr.mono (by decide)) (by rfl) T.g_closed T.F_closed.kp (bn_closed T) .nil pass0 (pa_cons (pv 0) (pa_cons (pe_lst (pa_cons pe_int pa_nil)) pa_nil)))))),?_⟩
  have S : Sx P0 F0 H0 F0 H0 := Sx.refl0 hE
  unfold Zga at hm
  refine Zai <| Zah <| Zaa <| rd_v rfl <| Zaa <| Zcz <| Zaa <| rd_c <| Zac <| Zfg rfl ?_
  refine alL (K := K) (A := qI) (xs := ([0] : List Int)) S (.cons rfl .nil) (fun v1 F2 H3 c4 f5 => ?_)
  have S6 := S.call0 c4
  have f_cells := f_cells.up c4
  have f7 : (qQ qI).r K F2 v1 ([0] : List Int) := (.inl f5)
  obtain ⟨t8,e9,hm⟩ := Zab hm
  refine Zac ?_
  refine ⟨F2,_,_,_,_,t8,rfl,S6.sub,f_cells,f7,e9,fun v13 F10 H11 c12 f14 => ?_⟩
  have S15 := S6.call0 c12
  have f_cells := f_cells.up c12
  cases hm
  exact hQ _ _ _ S15 f14
def Zke (K : PySem.W.Frag) : Sp := fun vs H Q _ => ∃ (F : Hp) (v_self : V) (a_self : (List Str)) (r : (List Str)),vs = [v_self] ∧ Same F H ∧ qForm.r K F v_self a_self ∧ Zdq a_self = some r ∧ ∀ v F' H',Sx P0 F H F' H' → (qT qS).r K F' v r → Q v H'
theorem Zkh : FnScope ["self"] ["self"] (defScope Zdk) := ⟨rfl,rfl,rfl,by decide +kernel,rfl,by decide +kernel,by decide +kernel⟩
theorem Zho (T : Tx K mg) : Binds K (fdOf K ("Form",some "parts")) ["self"] [] := FunD.bindsN T.F_Form_parts fun _ _ _ _ _ _ us hl => match us,hl with | [_],_ => rfl
theorem Zhe (T : Tx K mg) : FnOk P w K mg base CX0 1 (He.fAd K ("Form",some "parts")) (fdOf K ("Form",some "parts")) ["self"] (Zke K) := by
 refine FunD.ok T.F_Form_parts Zkh (fun vs H0 Q E h => ?_) (fun cdv A outer s H0 vs Q E hr h => ?_)
 ·
  obtain ⟨_,_,_,_,rfl,_⟩ := h
  rfl
 ·
  obtain ⟨F0,v_self,a_self,r,rfl,hE,f_self,hm,hQ⟩ := h
  refine ⟨_,PSs.nox ((pss_one (ps_ret (Zcj (pv 0) rfl)))),?_⟩
  have S : Sx P0 F0 H0 F0 H0 := Sx.refl0 hE
  unfold Zdq at hm
  refine Zai <| Zdw <| rd_v rfl ?_
  refine Zgc T S f_self (fun u1 f2 => ?_)
  cases hm
  exact hQ _ _ _ S f2
def sp_takes (K : PySem.W.Frag) : Sp := fun vs H Q _ => ∃ (F : Hp) (a_cell : Str) (a_sign : Str) (r : Bool),vs = [(V.str (a_cell)),(V.str (a_sign))] ∧ Same F H ∧ Zf9 a_cell a_sign = some r ∧ ∀ v F' H',Sx P0 F H F' H' → qB.r K F' v r → Q v H'
theorem sc_takes : FnScope ["cell","sign"] ["cell","sign"] (defScope Ziz) := ⟨rfl,rfl,rfl,by decide +kernel,rfl,by decide +kernel,by decide +kernel⟩
theorem bn_takes (T : Tx K mg) : Binds K (fdOf K ("takes",none)) ["cell","sign"] [] := FunD.bindsN T.F_takes fun _ _ _ _ _ _ us hl => match us,hl with | [_,_],_ => rfl
theorem ok_takes (T : Tx K mg) : FnOk P w K mg base CX0 1 (He.ga K "takes") (fdOf K ("takes",none)) ["cell","sign"] (sp_takes K) := by
 refine FunD.ok T.F_takes sc_takes (fun vs H0 Q E h => ?_) (fun cdv A outer s H0 vs Q E hr h => ?_)
 ·
  obtain ⟨_,_,_,_,rfl,_⟩ := h
  rfl
 ·
  obtain ⟨F0,a_cell,a_sign,r,rfl,hE,hm,hQ⟩ := h
  refine ⟨_,PSs.nox ((pss_cons (ps_if (pt_cmpR Zb1 (pv 0) (pe_glob (v := V.str "<any>") (by rfl) (T.k_ANY_CELL.choose_spec) ⟨_,rfl⟩) (nomark _)) (pss_one (ps_ret pe_bl)) pss_nil) (pss_cons (ps_if (pt_cmpR Zb1 (pv 0) (pe_glob (v := V.str "<digits>") (by rfl) (T.k_DIGITS_CELL.choose_spec) ⟨_,rfl⟩) (nomark _)) (pss_one (ps_ret (pe_cmpR Zj4 (pv 1) (pe_glob (v := V.str "0123456789") (by rfl) (T.k_DIGIT_SIGNS.choose_spec) ⟨_,rfl⟩) rfl))) pss_nil) (pss_cons (ps_if (pt_cmpR Zb1 (pv 0) (pe_glob (v := V.str "<word>") (by rfl) (T.k_WORD_CELL.choose_spec) ⟨_,rfl⟩) (nomark _)) (pss_one (ps_ret (pe_cmpR Zj4 (pv 1) (pe_glob (v := V.str "ABCDEFGHIJKLMNOPQRSTUVWXYZabcdefghijklmnopqrstuvwxyz") (by rfl) (T.k_LETTER_SIGNS.choose_spec) ⟨_,rfl⟩) rfl))) pss_nil) (pss_one (ps_ret (pe_cmpR Zb1 (pv 0) (pv 1) (nomark _)))))))),?_⟩
  have S : Sx P0 F0 H0 F0 H0 := Sx.refl0 hE
  unfold Zf9 at hm
  refine Zaf <| Zal <| Zag <| Zad <| rd_v rfl <| rd_c <| Zc4 <| rd_b ?_
  refine if_b hm (fun b1 hm => ?_) (fun b1 hm => ?_)
  ·
   cases hm
   refine Zai <| rd_c ?_
   exact hQ _ _ _ S rfl
  ·
   refine Zaj <| Zaf <| Zal <| Zag <| Zad <| rd_v rfl <| rd_c <| Zc4 <| rd_b ?_
   refine if_b hm (fun b2 hm => ?_) (fun b2 hm => ?_)
   ·
    cases hm
    refine Zai <| Zad <| rd_v rfl <| rd_c ?_
    refine Zh0 ?_
    exact hQ _ _ _ S rfl
   ·
    refine Zaj <| Zaf <| Zal <| Zag <| Zad <| rd_v rfl <| rd_c <| Zc4 <| rd_b ?_
    refine if_b hm (fun b3 hm => ?_) (fun b3 hm => ?_)
    ·
     cases hm
     refine Zai <| Zad <| rd_v rfl <| rd_c ?_
     refine Zh0 ?_
     exact hQ _ _ _ S rfl
    ·
     cases hm
     refine Zaj <| Zai <| Zad <| rd_v rfl <| rd_v rfl <| Zc4 ?_
     exact hQ _ _ _ S rfl
def sp_moved (K : PySem.W.Frag) : Sp := fun vs H Q _ => ∃ (F : Hp) (v_cells : V) (a_cells : (List Str)) (v_positions : V) (a_positions : (List Int)) (a_sign : Str) (r : (List Int)),vs = [v_cells,v_positions,(V.str (a_sign))] ∧ Same F H ∧ (qL qS).r K F v_cells a_cells ∧ (qQ qI).r K F v_positions a_positions ∧ Zjc a_cells a_positions a_sign = some r ∧ ∀ v F' H',Sx P0 F H F' H' → (qT qI).r K F' v r → Q v H'
theorem sc_moved : FnScope ["cells","positions","sign","found","at"] ["cells","positions","sign"] (defScope Zi0) := ⟨rfl,rfl,rfl,by decide +kernel,rfl,by decide +kernel,by decide +kernel⟩
theorem bn_moved (T : Tx K mg) : Binds K (fdOf K ("moved",none)) ["cells","positions","sign"] [] := FunD.bindsN T.F_moved fun _ _ _ _ _ _ us hl => match us,hl with | [_,_,_],_ => rfl
theorem ok_moved (T : Tx K mg) : FnOk P w K mg base CX0 2 (He.ga K "moved") (fdOf K ("moved",none)) ["cells","positions","sign"] (sp_moved K) := by
 refine FunD.ok T.F_moved sc_moved (fun vs H0 Q E h => ?_) (fun cdv A outer s H0 vs Q E hr h => ?_)
 ·
  obtain ⟨_,_,_,_,_,_,_,rfl,_⟩ := h
  rfl
 ·
  obtain ⟨F0,v_cells,a_cells,v_positions,a_positions,a_sign,r,rfl,hE,f_cells,f_positions,hm,hQ⟩ := h
  refine ⟨_,PSs.nox ((pss_cons (ps_set (i := 3) sc_moved.nd rfl (dk rfl) (pe_lst pa_nil)) (pss_cons (ps_for PassesOwn.never rfl (pi_seq (pv 1)) (pg_name (i := 4) sc_moved.nd rfl (dk rfl)) (C8.pss_cut (ps_if (PW.pt (pw_and (pt_cmpR op_lt (pv 4) (pe_callB (r := Zc9 K) Za3 (by rfl) T.n_len (by decide +kernel) (pa_cons (pv 0) pa_nil)) (nomark _)) (pw_and1 (pt_val (pe_call (ok_takes T) (hr.mono (by decide)) (by rfl) T.g_takes T.F_takes.kp (bn_takes T) .nil pass0 (pa_cons (pe_ix (r := rIxL K) ix_list (pv 0) (pv 4) (fun _ _ => rfl)) (pa_cons (pv 2) pa_nil))))))) (pss_one (ps_expr (Zcv (K := K) PySem.F.plainAttrs_list PySem.F.slot_list_append PySem.F.type_list_append mt_append (pv 3) (pa_cons (pe_ifExp (pt_cmpR Zb1 (pe_ix (r := rIxL K) ix_list (pv 0) (pv 4) (fun _ _ => rfl)) (pe_glob (v := V.str "<any>") (by rfl) (T.k_ANY_CELL.choose_spec) ⟨_,rfl⟩) (nomark _)) (pv 4) (pe_op op_add (pv 4) pe_int)) pa_nil)))) pss_nil) (pss_one (ps_if (PW.pt (pw_and (pt_cmpR op_gt (pv 4) pe_int (nomark _)) (pw_and (pt_cmpR (r := rIn K false) op_in_seq (pe_ix (r := rIxL K) ix_list (pv 0) (pe_op op_sub (pv 4) pe_int) (fun _ _ => rfl)) (pe_tup (pa_cons (pe_glob (v := V.str "<digits>") (by rfl) (T.k_DIGITS_CELL.choose_spec) ⟨_,rfl⟩) (pa_cons (pe_glob (v := V.str "<word>") (by rfl) (T.k_WORD_CELL.choose_spec) ⟨_,rfl⟩) pa_nil))) rfl) (pw_and1 (pt_val (pe_call (ok_takes T) (hr.mono (by decide)) (by rfl) T.g_takes T.F_takes.kp (bn_takes T) .nil pass0 (pa_cons (pe_ix (r := rIxL K) ix_list (pv 0) (pe_op op_sub (pv 4) pe_int) (fun _ _ => rfl)) (pa_cons (pv 2) pa_nil)))))))) (pss_one (ps_expr (Zcv (K := K) PySem.F.plainAttrs_list PySem.F.slot_list_append PySem.F.type_list_append mt_append (pv 3) (pa_cons (pv 4) pa_nil)))) pss_nil)))) (pss_one (ps_ret (pe_call (ok_closed T) (hr.mono (by decide)) (by rfl) T.g_closed T.F_closed.kp (bn_closed T) .nil pass0 (pa_cons (pv 0) (pa_cons (pv 3) pa_nil)))))))),?_⟩
  have S : Sx P0 F0 H0 F0 H0 := Sx.refl0 hE
  unfold Zjc at hm
  refine Zaf <| Zak <| Zcz <| Zac <| Zfg rfl ?_
  refine al S (fun p1 H2 np3 c4 w5 => ?_)
  have z7 := S.free0 np3
  have S8 := S.call0 c4
  obtain ⟨f_cells,f_positions⟩ := up2 f_cells f_positions c4
  refine Zam <| Zaf <| Zdv ?_
  refine rd_wSeq S8 f_positions (by intro _ k; exact rd_v rfl k) (fun J9 n10 G11 it12 fd13 ty14 hg15 => ?_)
  have r16 : Row qI K F0 [] ([] : List Int) := .nil
  obtain ⟨t17,e18,hm⟩ := Zab hm
  refine Zds fd13 ty14 e18 (fun (s19 : (List Int)) σ H => ∃ (F : Hp) (o4 : Option V) (vs0 : List V),σ = [some v_cells,some v_positions,some (V.str (a_sign)),some (V.ref p1),o4] ∧ Sx (fun a => a = p1) F0 H2 F H ∧ Ow (fun a => a = p1) H2 F H p1 (.lst vs0) ∧ Row qI K F vs0 s19) ?_ ?_ ?_ ?_
  ·
   rintro _ _ _ ⟨_,_,_,_,S20,_,_⟩
   exact (hg15 _ _ S20.le S20.sub)
  ·
   have S21 : Sx (fun a => a = p1) _ _ _ _ := Sx.refl S8.sub (fun a z => by rw [z,w5.at_]; exact (fun h => nomatch h))
   have w22 : Ow (fun a => a = p1) H2 _ _ _ _ := ⟨w5.fr,w5.at_,.inr (rfl)⟩
   exact ⟨F0,_,_,rfl,S21,w22,r16⟩
  ·
   rintro x23 v24 s25 c29 σ26 H27 f28 ⟨F30,o32,v33,rfl,S31,w34,r35⟩ hm38
   obtain ⟨f_cells,f_positions⟩ := up2 f_cells f_positions S31
   unfold Zh2 at hm38
   cases (show v24 = (V.int (x23)) from f28)
   obtain ⟨t39,e40,hm38⟩ := Zab hm38
   refine Zam ?_
   refine rd_cut (fun σ' H' => ∃ (F : Hp) (vs0 : List V),σ' = [some v_cells,some v_positions,some (V.str (a_sign)),some (V.ref p1),some (V.int (x23))] ∧ Sx (fun a => a = p1) F30 H27 F H' ∧ Ow (fun a => a = p1) H27 F H' p1 (.lst vs0) ∧ Row qI K F vs0 t39) ?_ ?_
   ·
    have S41 : Sx (fun a => a = p1) _ _ _ _ := Sx.refl S31.sub (fun a z => by rw [z,w34.at_]; exact (fun h => nomatch h))
    have w42 : Ow (fun a => a = p1) H27 _ _ _ _ := ⟨w34.fr,w34.at_,.inr (rfl)⟩
    obtain ⟨t55,e56,e40⟩ := Zab e40
    refine Zal <| Zfw <| Zag <| Zad <| rd_v rfl <| Zay <| Zaa <| rd_v rfl <| Zac ?_
    refine Zbi (S41.l f_cells).r.q ?_
    refine Zax <| rd_b ?_
    refine and_j (fun c H' => c = t55 ∧ ∃ F',Sx P0 F30 H27 F' H') ?_ ?_ ?_
    ·
     intro b57 Q58 q59
     have e56 := if_t e56 b57
     have S60 := Sx.refl0 S41.sub
     obtain ⟨t61,e62,e56⟩ := Zab e56
     refine Zgz <| Zah <| Zaa <| Zad <| rd_v rfl <| rd_v rfl ?_
     refine Zbp (S60.l f_cells).r e62 (fun u63 f64 => ?_)
     cases (show u63 = (V.str (t61)) from f64)
     obtain ⟨t65,e66,e56⟩ := Zab e56
     refine Zaa <| rd_v rfl <| Zac ?_
     refine ⟨F30,_,_,t65,rfl,S60.sub,e66,fun v70 F67 H68 c69 f71 => ?_⟩
     have S72 := S60.call0 c69
     obtain ⟨f_cells,f_positions⟩ := up2 f_cells f_positions c69
     have r35 := Row.mono c69.le r35
     have w42 := w42.call0 c69
     cases (show v70 = (V.bl (t65)) from f71)
     cases e56
     refine rd_b ?_
     exact q59 _ _ ⟨rfl,F67,S72⟩
    ·
     intro b57
     have e56 := if_f e56 b57
     cases e56
     have S73 := Sx.refl0 S41.sub
     exact ⟨rfl,F30,S73⟩
    rintro b77 H75 ⟨rfl,F74,c76⟩
    have S78 := S41.call0 c76
    obtain ⟨f_cells,f_positions⟩ := up2 f_cells f_positions c76
    have r35 := Row.mono c76.le r35
    have w42 := w42.call0 c76
    refine if_b e40 (fun b79 e40 => ?_) (fun b79 e40 => ?_)
    ·
     obtain ⟨t80,e81,e40⟩ := Zab e40
     refine Zc0 <| Ze5 <| rd_v rfl <| Ze4 w42.ty <| Zaa ?_
     refine rd_ifE ?_
     refine Zag <| Zad <| Zad <| rd_v rfl <| rd_v rfl ?_
     refine Zbp (S78.l f_cells).r e81 (fun u82 f83 => ?_)
     cases (show u82 = (V.str (t80)) from f83)
     obtain ⟨t84,e85,e40⟩ := Zab e40
     refine rd_c <| Zc4 <| rd_b ?_
     refine ifE_j (fun c H' => ∃ F',c = (V.int (t84)) ∧ Sx P0 F74 H75 F' H') ?_ ?_ ?_
     ·
      intro b86 Q87 q88
      have hm89 := if_t e85 b86
      have S90 := Sx.refl0 S78.sub
      cases hm89
      refine rd_v rfl ?_
      exact q88 _ _ ⟨F74,rfl,S90⟩
     ·
      intro b91 Q92 q93
      have hm94 := if_f e85 b91
      have S95 := Sx.refl0 S78.sub
      cases hm94
      refine Zad <| rd_v rfl <| rd_c <| Zax ?_
      exact q93 _ _ ⟨F74,rfl,S95⟩
     rintro v99 H97 ⟨F96,f100,c98⟩
     have S101 := S78.call0 c98
     obtain ⟨f_cells,f_positions⟩ := up2 f_cells f_positions c98
     have r35 := Row.mono c98.le r35
     have w42 := w42.call0 c98
     cases (show v99 = (V.int (t84)) from f100)
     obtain ⟨g102,e40⟩ := Zae e40
     refine Zac ?_
     refine ap S101 w42 r35 g102 (fun H103 c104 w105 => ?_)
     have r106 := r35.snoc (show qI.r K F96 _ t84 from rfl)
     have S107 := S101.call1 c104 w42
     obtain ⟨f_cells,f_positions⟩ := up2 f_cells f_positions c104
     have r106 := Row.mono c104.le r106
     cases e40
     exact ⟨F96,_,rfl,S107,w105,r106⟩
    ·
     cases e40
     refine Zaj ?_
     exact ⟨F74,_,rfl,S78,w42,r35⟩
   ·
    rintro σ109 H108 ⟨F110,v112,rfl,S111,w113,r114⟩
    have S115 := S31.call1 S111 w34
    obtain ⟨f_cells,f_positions⟩ := up2 f_cells f_positions S111
    have w116 : Ow (fun a => a = p1) H2 _ _ _ _ := ⟨w113.fr,w113.at_,w34.mine⟩
    obtain ⟨t163,e164,hm38⟩ := Zab hm38
    refine Zal <| Zfw <| Zag <| Zad <| rd_v rfl <| rd_c <| Zax <| rd_b ?_
    refine and_j (fun c H' => c = t163 ∧ ∃ F',Sx P0 F110 H108 F' H') ?_ ?_ ?_
    ·
     intro b165 Q166 q167
     have e164 := if_t e164 b165
     have S168 := Sx.refl0 S115.sub
     obtain ⟨t169,e170,e164⟩ := Zab e164
     refine Zfw <| Zag <| Zad <| Zad <| rd_v rfl <| Zad <| rd_v rfl <| rd_c <| Zax ?_
     refine Zbp (S168.l f_cells).r e170 (fun u171 f172 => ?_)
     cases (show u171 = (V.str (t169)) from f172)
     refine rd_tup <| Zaa <| rd_c <| Zaa <| rd_c <| Zac <| rd_uK rfl ?_
     refine alT (K := K) (A := qS) (xs := [("<digits>" : Str),("<word>" : Str)]) S168 (.cons rfl (.cons rfl .nil)) (fun v173 F174 H175 c176 f177 => ?_)
     have S178 := S168.call0 c176
     obtain ⟨f_cells,f_positions⟩ := up2 f_cells f_positions c176
     have r114 := Row.mono c176.le r114
     have w116 := w116.call0 c176
     obtain ⟨t191,e192,e164⟩ := Zab e164
     refine rd_inS (S178.t f177).q ?_
     refine rd_b ?_
     refine and_j (fun c H' => c = t191 ∧ ∃ F',Sx P0 F174 H175 F' H') ?_ ?_ ?_
     ·
      intro b193 Q194 q195
      have e192 := if_t e192 b193
      have S196 := Sx.refl0 S178.sub
      obtain ⟨t197,e198,e192⟩ := Zab e192
      refine Zgz <| Zah <| Zaa <| Zad <| rd_v rfl <| Zad <| rd_v rfl <| rd_c <| Zax ?_
      refine Zbp (S196.l f_cells).r e198 (fun u199 f200 => ?_)
      cases (show u199 = (V.str (t197)) from f200)
      obtain ⟨t201,e202,e192⟩ := Zab e192
      refine Zaa <| rd_v rfl <| Zac ?_
      refine ⟨F174,_,_,t201,rfl,S196.sub,e202,fun v206 F203 H204 c205 f207 => ?_⟩
      have S208 := S196.call0 c205
      obtain ⟨f_cells,f_positions⟩ := up2 f_cells f_positions c205
      have r114 := Row.mono c205.le r114
      have w116 := w116.call0 c205
      cases (show v206 = (V.bl (t201)) from f207)
      cases e192
      refine rd_b ?_
      exact q195 _ _ ⟨rfl,F203,S208⟩
     ·
      intro b193
      have e192 := if_f e192 b193
      cases e192
      have S209 := Sx.refl0 S178.sub
      exact ⟨rfl,F174,S209⟩
     rintro b213 H211 ⟨rfl,F210,c212⟩
     have S214 := S178.call0 c212
     obtain ⟨f_cells,f_positions⟩ := up2 f_cells f_positions c212
     have r114 := Row.mono c212.le r114
     have w116 := w116.call0 c212
     cases e164
     exact q167 _ _ ⟨rfl,F210,S214⟩
    ·
     intro b165
     have e164 := if_f e164 b165
     cases e164
     have S215 := Sx.refl0 S115.sub
     exact ⟨rfl,F110,S215⟩
    rintro b219 H217 ⟨rfl,F216,c218⟩
    have S220 := S115.call0 c218
    obtain ⟨f_cells,f_positions⟩ := up2 f_cells f_positions c218
    have r114 := Row.mono c218.le r114
    have w116 := w116.call0 c218
    refine if_b hm38 (fun b221 hm38 => ?_) (fun b221 hm38 => ?_)
    ·
     obtain ⟨g222,hm38⟩ := Zae hm38
     refine Zc0 <| Ze5 <| rd_v rfl <| Ze4 w116.ty <| Zaa <| rd_v rfl <| Zac ?_
     refine ap S220 w116 r114 g222 (fun H223 c224 w225 => ?_)
     have r226 := r114.snoc (show qI.r K F216 _ x23 from rfl)
     have S227 := S220.call1 c224 w116
     obtain ⟨f_cells,f_positions⟩ := up2 f_cells f_positions c224
     have r226 := Row.mono c224.le r226
     cases hm38
     exact ⟨F216,_,_,rfl,S227,w225,r226⟩
    ·
     cases hm38
     refine Zaj ?_
     exact ⟨F216,_,_,rfl,S220,w116,r114⟩
  ·
   rintro σ228 H229 ⟨F230,o232,v233,rfl,S231,w234,r235⟩
   have S236 := S8.call1 S231 w5
   obtain ⟨f_cells,f_positions⟩ := up2 f_cells f_positions S231
   have w237 : Ow P0 H0 _ _ _ _ := ⟨w234.fr,w234.at_,w5.mine⟩
   obtain ⟨F238,S239,le240,f241,_,eq242⟩ := fz S236 w237 z7 r235
   have f_cells := (qL qS).mono le240 f_cells
   have f_positions := (qQ qI).mono le240 f_positions
   have f243 : (qQ qI).r K F238 (V.ref p1) t17 := (.inl f241)
   obtain ⟨t244,e245,hm⟩ := Zab hm
   refine Zai <| Zah <| Zaa <| rd_v rfl <| Zaa <| rd_v rfl <| Zac ?_
   refine ⟨F238,_,_,_,_,t244,rfl,S239.sub,f_cells,f243,e245,fun v249 F246 H247 c248 f250 => ?_⟩
   have S251 := S239.call0 c248
   obtain ⟨f_cells,f_positions,f241⟩ := up3 f_cells f_positions f241 c248
   cases hm
   exact hQ _ _ _ S251 f250
def sp_is_done (K : PySem.W.Frag) : Sp := fun vs H Q _ => ∃ (F : Hp) (v_cells : V) (a_cells : (List Str)) (v_positions : V) (a_positions : (List Int)) (r : Bool),vs = [v_cells,v_positions] ∧ Same F H ∧ (qL qS).r K F v_cells a_cells ∧ (qQ qI).r K F v_positions a_positions ∧ Zhj a_cells a_positions = some r ∧ ∀ v F' H',Sx P0 F H F' H' → qB.r K F' v r → Q v H'
theorem sc_is_done : FnScope ["cells","positions"] ["cells","positions"] (defScope Zf2) := ⟨rfl,rfl,rfl,by decide +kernel,rfl,by decide +kernel,by decide +kernel⟩
theorem bn_is_done (T : Tx K mg) : Binds K (fdOf K ("is_done",none)) ["cells","positions"] [] := FunD.bindsN T.F_is_done fun _ _ _ _ _ _ us hl => match us,hl with | [_,_],_ => rfl
theorem ok_is_done (T : Tx K mg) : FnOk P w K mg base CX0 1 (He.ga K "is_done") (fdOf K ("is_done",none)) ["cells","positions"] (sp_is_done K) := by
 refine FunD.ok T.F_is_done sc_is_done (fun vs H0 Q E h => ?_) (fun cdv A outer s H0 vs Q E hr h => ?_)
 ·
  obtain ⟨_,_,_,_,_,_,rfl,_⟩ := h
  rfl
 ·
  obtain ⟨F0,v_cells,a_cells,v_positions,a_positions,r,rfl,hE,f_cells,f_positions,hm,hQ⟩ := h
  refine ⟨_,PSs.nox ((pss_one (ps_ret (pe_cmpR (r := rIn K false) op_in_seq (pe_callB (r := Zc9 K) Za3 (by rfl) T.n_len (by decide +kernel) (pa_cons (pv 0) pa_nil)) (pv 1) rfl)))),?_⟩
  have S : Sx P0 F0 H0 F0 H0 := Sx.refl0 hE
  unfold Zhj at hm
  cases hm
  refine Zai <| Zad <| Zay <| Zaa <| rd_v rfl <| Zac ?_
  refine Zbi (S.l f_cells).r.q ?_
  refine rd_v rfl ?_
  refine rd_inI (S.q f_positions) ?_
  exact hQ _ _ _ S rfl
def Zd4 (x : Str) (K : PySem.W.Frag) : Sp := fun vs H Q _ => ∃ (F : Hp) (v_self : V) (a_self : Pat) (a_line : Str) (r : Bool),vs = [v_self,(V.str (a_line))] ∧ Same F H ∧ qPat.r K F v_self a_self ∧ a_self.cls = x ∧ Zaw a_self a_line = some r ∧ ∀ v F' H',Sx P0 F H F' H' → qB.r K F' v r → Q v H'
theorem sc_pat___contains__ : FnScope ["self","line","truths","form","cells","positions","sign"] ["self","line"] (defScope Zcx) := ⟨rfl,rfl,rfl,by decide +kernel,rfl,by decide +kernel,by decide +kernel⟩
theorem Zct {x : Str} (F : FnD' K (x,some "__contains__") "__contains__" "Pattern.__contains__" Zcx) : Binds K (fdOf K (x,some "__contains__")) ["self","line"] [] := FunD.bindsN F fun _ _ _ _ _ _ us hl => match us,hl with | [_,_],_ => rfl
theorem Zcp (T : Tx K mg) {x : Str} (F : FnD' K (x,some "__contains__") "__contains__" "Pattern.__contains__" Zcx) : FnOk P w K mg base CX0 5 (He.fAd K (x,some "__contains__")) (fdOf K (x,some "__contains__")) ["self","line"] (Zd4 x K) := by
 refine FunD.ok F sc_pat___contains__ (fun vs H0 Q E h => ?_) (fun cdv A outer s H0 vs Q E hr h => ?_)
 ·
  obtain ⟨_,_,_,_,_,rfl,_⟩ := h
  rfl
 ·
  obtain ⟨F0,v_self,a_self,a_line,r,rfl,hE,f_self,hcls,hm,hQ⟩ := h
  refine ⟨_,PSs.nox ((pss_cons (ps_if (pt_not (pt_val (pe_call (Zj5 T) (hr.mono (by decide)) (by rfl) T.g_is_line T.F_is_line.kp (Zj9 T) .nil pass0 (pa_cons (pv 1) pa_nil)))) (pss_one (ps_ret pe_bl)) pss_nil) (pss_cons (ps_set (i := 2) sc_pat___contains__.nd rfl (dk rfl) (pe_lst pa_nil)) (pss_cons (ps_for PassesOwn.never rfl (Zde (Zbx (E := E0) (pv 0))) (pg_name (i := 3) sc_pat___contains__.nd rfl (dk rfl)) (pss_cons (ps_set (i := 4) sc_pat___contains__.nd rfl (dk rfl) (pe_call (ok_cells_of T) (hr.mono (by decide)) (by rfl) T.g_cells_of T.F_cells_of.kp (bn_cells_of T) .nil pass0 (pa_cons (pe_meth0 (pv 3) T.c_Form T.me_Form_parts (Zhe T) (hr.mono (by decide)) (Zho T) .nil pass0) pa_nil))) (pss_cons (ps_set (i := 5) sc_pat___contains__.nd rfl (dk rfl) (pe_call (ok_started T) (hr.mono (by decide)) (by rfl) T.g_started T.F_started.kp (bn_started T) .nil pass0 (pa_cons (pv 4) pa_nil))) (pss_cons (ps_for PassesOwn.never rfl (pi_str (pv 1)) (pg_name (i := 6) sc_pat___contains__.nd rfl (dk rfl)) (pss_one (ps_set (i := 5) sc_pat___contains__.nd rfl (dk rfl) (pe_call (ok_moved T) (hr.mono (by decide)) (by rfl) T.g_moved T.F_moved.kp (bn_moved T) .nil pass0 (pa_cons (pv 4) (pa_cons (pv 5) (pa_cons (pv 6) pa_nil))))))) (pss_one (ps_expr (Zcv (K := K) PySem.F.plainAttrs_list PySem.F.slot_list_append PySem.F.type_list_append mt_append (pv 2) (pa_cons (pe_call (ok_is_done T) (hr.mono (by decide)) (by rfl) T.g_is_done T.F_is_done.kp (bn_is_done T) .nil pass0 (pa_cons (pv 4) (pa_cons (pv 5) pa_nil))) pa_nil)))))))) (pss_one (ps_ret (Zhb (E := E0) (pv 0) (pa_cons (pv 2) pa_nil)))))))),?_⟩
  have S : Sx P0 F0 H0 F0 H0 := Sx.refl0 hE
  unfold Zaw at hm
  have f1 : qTh.r K F0 (V.str (a_line)) (Th.d (PyData.str (a_line))) := (show qTh.r K F0 _ (Th.d (PyData.str (a_line))) from Dp.str _)
  obtain ⟨t2,e3,hm⟩ := Zab hm
  refine Zaf <| Zal <| Zgr <| Zgz <| Zah <| Zaa <| rd_v rfl <| Zac ?_
  refine ⟨F0,_,_,t2,rfl,S.sub,f1,e3,fun v7 F4 H5 c6 f8 => ?_⟩
  have S9 := S.call0 c6
  have f_self := f_self.up c6
  cases (show v7 = (V.bl (t2)) from f8)
  refine rd_b ?_
  refine if_b hm (fun b10 hm => ?_) (fun b10 hm => ?_)
  ·
   cases hm
   refine Zai <| rd_c ?_
   exact hQ _ _ _ S9 rfl
  ·
   refine Zaj <| Zaf <| Zak <| Zcz <| Zac <| Zfg rfl ?_
   refine al S9 (fun p11 H12 np13 c14 w15 => ?_)
   have r16 : Row qB K F4 [] ([] : List Bool) := .nil
   have z17 := S9.free0 np13
   have S18 := S9.call0 c14
   have f_self := f_self.up c14
   refine Zam <| Zaf <| Zdv <| Zjr ?_
   refine Zbe ?_
   refine rd_v rfl ?_
   refine VM.call (Zdx T 3) (hr.mono (by decide)) S18 f_self ?_
   obtain ⟨t19,e20,hm⟩ := Zab hm
   refine Zac ?_
   refine ⟨F4,_,_,t19,rfl,S18.sub,f_self,rfl,e20,fun v24 F21 H22 c23 f25 => ?_⟩
   have S26 := S18.call0 c23
   have f_self := f_self.up c23
   have r16 := Row.mono c23.le r16
   have w15 := w15.call0 c23
   refine Zgq S26 (f25) (fun p27 vs28 hq29 row30 => ?_)
   obtain ⟨t31,e32,hm⟩ := Zab hm
   refine Zds Zgd (Zcc row30) e32 (fun (s33 : (List Bool)) σ H => ∃ (F : Hp) (o3 : Option V) (o4 : Option V) (o5 : Option V) (o6 : Option V) (vs0 : List V),σ = [some v_self,some (V.str (a_line)),some (V.ref p11),o3,o4,o5,o6] ∧ Sx (fun a => a = p11) F21 H22 F H ∧ Ow (fun a => a = p11) H22 F H p11 (.lst vs0) ∧ Row qB K F vs0 s33) ?_ ?_ ?_ ?_
   ·
    rintro _ _ _ ⟨_,_,_,_,_,_,_,S34,_,_⟩
    exact (Same.seq S34.sub (Same.seq S34.le hq29))
   ·
    have S35 : Sx (fun a => a = p11) _ _ _ _ := Sx.refl S26.sub (fun a z => by rw [z,w15.at_]; exact (fun h => nomatch h))
    have w36 : Ow (fun a => a = p11) H22 _ _ _ _ := ⟨w15.fr,w15.at_,.inr (rfl)⟩
    exact ⟨F21,_,_,_,_,_,rfl,S35,w36,r16⟩
   ·
    rintro x37 v38 s39 c43 σ40 H41 f42 ⟨F44,o46,o47,o48,o49,v50,rfl,S45,w51,r52⟩ hm55
    have f_self := f_self.up S45
    unfold Za0 at hm55
    have f42 := f42.up S45
    refine Zam <| Zaf <| Zak <| Zah <| Zaa <| rd_meth <| rd_v rfl ?_
    refine Zhi S45 f42 ?_
    obtain ⟨t56,e57,hm55⟩ := Zab hm55
    refine Zac ?_
    refine ⟨F44,_,_,t56,rfl,S45.sub,f42,e57,fun v61 F58 H59 c60 f62 => ?_⟩
    have S63 := S45.call0 c60
    obtain ⟨f_self,f42⟩ := up2 f_self f42 c60
    have r52 := Row.mono c60.le r52
    have w51 := w51.call0 c60
    have f64 : (qQ qS).r K F58 v61 t56 := (.inr f62)
    obtain ⟨t65,e66,hm55⟩ := Zab hm55
    refine Zac ?_
    refine ⟨F58,_,_,t65,rfl,S63.sub,f64,e66,fun v70 F67 H68 c69 f71 => ?_⟩
    have S72 := S63.call0 c69
    obtain ⟨f_self,f42⟩ := up2 f_self f42 c69
    have r52 := Row.mono c69.le r52
    have w51 := w51.call0 c69
    obtain ⟨t73,e74,hm55⟩ := Zab hm55
    refine Zam <| Zaf <| Zak <| Zah <| Zaa <| rd_v rfl <| Zac ?_
    refine ⟨F67,_,_,t73,rfl,S72.sub,f71,e74,fun v78 F75 H76 c77 f79 => ?_⟩
    have S80 := S72.call0 c77
    obtain ⟨f_self,f71,f42⟩ := up3 f_self f71 f42 c77
    have r52 := Row.mono c77.le r52
    have w51 := w51.call0 c77
    refine Zam <| Zaf <| Zdv ?_
    refine rd_iS ?_
    refine rd_v rfl ?_
    refine rd_wS ?_
    obtain ⟨t81,e82,hm55⟩ := Zab hm55
    refine Zds feedsS (typedS (K := K) (F := F75)) e82 (fun (s83 : (List Int)) σ H => ∃ (F : Hp) (x0 : V) (o6 : Option V),σ = [some v_self,some (V.str (a_line)),some (V.ref p11),some v38,some v70,some x0,o6] ∧ Sx P0 F75 H76 F H ∧ (qT qI).r K F x0 s83) ?_ ?_ ?_ ?_
    ·
     intro _ _ _ _; trivial
    ·
     have S85 := Sx.refl0 S80.sub
     exact ⟨F75,_,_,rfl,S85,f79⟩
    ·
     rintro x86 v87 s88 c92 σ89 H90 f91 ⟨F93,x95,o96,rfl,S94,f97⟩ hm100
     obtain ⟨f_self,f71,f42⟩ := up3 f_self f71 f42 S94
     have r52 := Row.mono S94.le r52
     have w51 := w51.call0 S94
     unfold Zbf at hm100
     cases (show v87 = (V.str (x86)) from f91)
     have f101 : (qQ qI).r K F93 x95 s88 := (.inr f97)
     obtain ⟨t102,e103,hm100⟩ := Zab hm100
     refine Zam <| Zak <| Zah <| Zaa <| rd_v rfl <| Zaa <| rd_v rfl <| Zaa <| rd_v rfl <| Zac ?_
     refine ⟨F93,_,_,_,_,_,t102,rfl,S94.sub,f71,f101,e103,fun v107 F104 H105 c106 f108 => ?_⟩
     have S109 := S94.call0 c106
     obtain ⟨f_self,f71,f97,f42⟩ := up4 f_self f71 f97 f42 c106
     have r52 := Row.mono c106.le r52
     have w51 := w51.call0 c106
     cases hm100
     refine Zam ?_
     exact ⟨F104,_,_,rfl,S109,f108⟩
    ·
     rintro σ110 H111 ⟨F112,x114,o115,rfl,S113,f116⟩
     have S117 := S80.call0 S113
     obtain ⟨f_self,f71,f42⟩ := up3 f_self f71 f42 S113
     have r52 := Row.mono S113.le r52
     have w51 := w51.call0 S113
     have f118 : (qQ qI).r K F112 x114 t81 := (.inr f116)
     obtain ⟨t119,e120,hm55⟩ := Zab hm55
     refine Zc0 <| Ze5 <| rd_v rfl <| Ze4 w51.ty <| Zaa <| Zah <| Zaa <| rd_v rfl <| Zaa <| rd_v rfl <| Zac ?_
     refine ⟨F112,_,_,_,_,t119,rfl,S117.sub,f71,f118,e120,fun v124 F121 H122 c123 f125 => ?_⟩
     have S126 := S117.call0 c123
     obtain ⟨f_self,f71,f116,f42⟩ := up4 f_self f71 f116 f42 c123
     have r52 := Row.mono c123.le r52
     have w51 := w51.call0 c123
     cases (show v124 = (V.bl (t119)) from f125)
     obtain ⟨g127,hm55⟩ := Zae hm55
     refine Zac ?_
     refine ap S126 w51 r52 g127 (fun H128 c129 w130 => ?_)
     have r131 := r52.snoc (show qB.r K F121 _ t119 from rfl)
     have S132 := S126.call1 c129 w51
     obtain ⟨f_self,f71,f116,f42⟩ := up4 f_self f71 f116 f42 c129
     have r131 := Row.mono c129.le r131
     cases hm55
     exact ⟨F121,_,_,_,_,_,rfl,S132,w130,r131⟩
   ·
    rintro σ133 H134 ⟨F135,o137,o138,o139,o140,v141,rfl,S136,w142,r143⟩
    have S144 := S26.call1 S136 w15
    have f_self := f_self.up S136
    have w145 : Ow P0 H0 _ _ _ _ := ⟨w142.fr,w142.at_,w15.mine⟩
    refine Zai ?_
    refine Zbe ?_
    refine rd_v rfl ?_
    refine VM.call (vm_holds T 3) (hr.mono (by decide)) S144 f_self ?_
    obtain ⟨F146,S147,le148,f149,_,eq150⟩ := fz S144 w145 z17 r143
    have f_self := qPat.mono le148 f_self
    obtain ⟨t151,e152,hm⟩ := Zab hm
    refine Zaa <| rd_v rfl <| Zac ?_
    refine ⟨F146,_,_,_,_,t151,rfl,S147.sub,f_self,rfl,f149,e152,fun v156 F153 H154 c155 f157 => ?_⟩
    have S158 := S147.call0 c155
    obtain ⟨f_self,f149⟩ := up2 f_self f149 c155
    cases (show v156 = (V.bl (t151)) from f157)
    cases hm
    exact hQ _ _ _ S158 rfl
theorem vm_contains (T : Tx K mg) : VM P w K mg base 5 "__contains__" ["self","line"] (fun x => Zd4 x K) := ⟨fun x hx => by
 rcases hx with rfl | rfl | rfl
 ·
  exact ⟨T.c_Form,T.me_Form___contains__,Zcp T T.F_Form___contains__,Zct T.F_Form___contains__⟩
 ·
  exact ⟨T.c_Both,T.me_Both___contains__,Zcp T T.F_Both___contains__,Zct T.F_Both___contains__⟩
 ·
  exact ⟨T.c_Either,T.me_Either___contains__,Zcp T T.F_Either___contains__,Zct T.F_Either___contains__⟩⟩
def sp_law_built (n : Nat) (K : PySem.W.Frag) : Sp := fun vs H Q _ => ∃ (F : Hp) (v_shape_here : V) (a_shape_here : Shp) (v_forms : V) (a_forms : (List (List Str))) (r : Pat),vs = [v_shape_here,v_forms] ∧ Same F H ∧ qSh.r K F v_shape_here a_shape_here ∧ (qL qForm).r K F v_forms a_forms ∧ Zca n a_shape_here a_forms = some r ∧ ∀ v F' H',Sx P0 F H F' H' → qPat.r K F' v r → Q v H'
theorem sc_law_built : FnScope ["_law_shape_here","_law_forms","_law_one","_law_other"] ["_law_shape_here","_law_forms"] (defScope Zd9) := ⟨rfl,rfl,rfl,by decide +kernel,rfl,by decide +kernel,by decide +kernel⟩
theorem Zgi (T : Tx K mg) : Binds K (fdOf K ("_law_built",none)) ["_law_shape_here","_law_forms"] [] := FunD.bindsN T.F_law_built fun _ _ _ _ _ _ us hl => match us,hl with | [_,_],_ => rfl
theorem ok_law_built (T : Tx K mg) : ∀ n : Nat,FnOk P w K mg base CX0 (n + 7 + 1) (He.ga K "_law_built") (fdOf K ("_law_built",none)) ["_law_shape_here","_law_forms"] (sp_law_built n K) := by
 intro n
 induction n with
 | zero =>
  refine FunD.ok T.F_law_built sc_law_built (fun vs H0 Q E h => ?_) (fun cdv A outer s H0 vs Q E hr h => ?_)
  ·
   obtain ⟨_,_,_,_,_,_,rfl,_⟩ := h
   rfl
  ·
   obtain ⟨F0,v_shape_here,a_shape_here,v_forms,a_forms,r,rfl,hE,f_shape_here,f_forms,hm,hQ⟩ := h
   unfold Zca at hm
   cases hm
 | succ n ih =>
  refine FunD.ok T.F_law_built sc_law_built (fun vs H0 Q E h => ?_) (fun cdv A outer s H0 vs Q E hr h => ?_)
  ·
   obtain ⟨_,_,_,_,_,_,rfl,_⟩ := h
   rfl
  ·
   obtain ⟨F0,v_shape_here,a_shape_here,v_forms,a_forms,r,rfl,hE,f_shape_here,f_forms,hm,hQ⟩ := h
   refine ⟨_,PSs.nox ((pss_cons (ps_if (pt_cmpR Zc5 (pe_callB (r := Zc9 K) Za3 (by rfl) T.n_len (by decide +kernel) (pa_cons (pv 0) pa_nil)) pe_int (nomark _)) (pss_one (ps_ret (pe_ix (r := rIxL K) ix_list (pv 1) (pe_ix (r := rIxL K) ix_list (pv 0) pe_int (fun _ _ => rfl)) (fun _ _ => rfl)))) pss_nil) (pss_cons (ps_set (i := 2) sc_law_built.nd rfl (dk rfl) (pe_call ih (hr.mono (by omega)) (by rfl) T.g_law_built T.F_law_built.kp (Zgi T) .nil pass0 (pa_cons (pe_ix (r := rIxL K) ix_list (pv 0) pe_int (fun _ _ => rfl)) (pa_cons (pv 1) pa_nil)))) (pss_cons (ps_set (i := 3) sc_law_built.nd rfl (dk rfl) (pe_call ih (hr.mono (by omega)) (by rfl) T.g_law_built T.F_law_built.kp (Zgi T) .nil pass0 (pa_cons (pe_ix (r := rIxL K) ix_list (pv 0) pe_int (fun _ _ => rfl)) (pa_cons (pv 1) pa_nil)))) (pss_cons (ps_if (pt_cmpR Zb1 (pe_ix (r := rIxL K) ix_list (pv 0) pe_int (fun _ _ => rfl)) pe_str (nomark _)) (pss_one (ps_ret (pe_op (r := rBinO K "and" _ (Zcw K) _) (Zkq (op := .BitAnd) (Zeh T) (hr.mono (by omega)) (Zei T) pass0) (pv 2) (pv 3)))) pss_nil) (pss_one (ps_ret (pe_op (r := rBinO K "or" _ (Zc6 K) _) (Zkq (op := .BitOr) (Ze7 T) (hr.mono (by omega)) (Zfe T) pass0) (pv 2) (pv 3))))))))),?_⟩
   have S : Sx P0 F0 H0 F0 H0 := Sx.refl0 hE
   unfold Zca at hm
   refine Zaf <| Zal <| Zag <| Zad <| Zay <| Zaa <| rd_v rfl <| Zac ?_
   refine Zkn S f_shape_here ?_
   refine rd_c <| Zax <| rd_b ?_
   refine if_b hm (fun b1 hm => ?_) (fun b1 hm => ?_)
   ·
    obtain ⟨t2,e3,hm⟩ := Zab hm
    obtain ⟨t4,e5,hm⟩ := Zab hm
    refine Zai <| Zad <| rd_v rfl <| Zad <| rd_v rfl <| rd_c ?_
    refine rd_shN S f_shape_here e3 ?_
    refine Zbp (S.l f_forms).r e5 (fun u6 f7 => ?_)
    have f8 : qPat.r K F0 u6 (Pat.form t4) := (show qPat.r K F0 u6 _ from f7)
    cases hm
    exact hQ _ _ _ S f8
   ·
    obtain ⟨t9,e10,hm⟩ := Zab hm
    refine Zaj <| Zaf <| Zak <| Zah <| Zaa <| Zad <| rd_v rfl <| rd_c ?_
    refine rd_shL S f_shape_here e10 (fun u11 f12 => ?_)
    obtain ⟨t13,e14,hm⟩ := Zab hm
    refine Zaa <| rd_v rfl <| Zac ?_
    refine ⟨F0,_,_,_,_,t13,rfl,S.sub,f12,f_forms,e14,fun v18 F15 H16 c17 f19 => ?_⟩
    have S20 := S.call0 c17
    obtain ⟨f_shape_here,f_forms⟩ := up2 f_shape_here f_forms c17
    obtain ⟨t21,e22,hm⟩ := Zab hm
    refine Zam <| Zaf <| Zak <| Zah <| Zaa <| Zad <| rd_v rfl <| rd_c ?_
    refine rd_shR S20 f_shape_here e22 (fun u23 f24 => ?_)
    obtain ⟨t25,e26,hm⟩ := Zab hm
    refine Zaa <| rd_v rfl <| Zac ?_
    refine ⟨F15,_,_,_,_,t25,rfl,S20.sub,f24,f_forms,e26,fun v30 F27 H28 c29 f31 => ?_⟩
    have S32 := S20.call0 c29
    obtain ⟨f_shape_here,f_forms,f19⟩ := up3 f_shape_here f_forms f19 c29
    obtain ⟨t33,e34,hm⟩ := Zab hm
    refine Zam <| Zaf <| Zal <| Zag <| Zad <| Zad <| rd_v rfl <| rd_c ?_
    refine rd_shO S32 f_shape_here e34 ?_
    refine rd_c <| Zc4 <| rd_b ?_
    refine if_b hm (fun b35 hm => ?_) (fun b35 hm => ?_)
    ·
     obtain ⟨t36,e37,hm⟩ := Zab hm
     refine Zai <| Zad <| rd_v rfl <| rd_v rfl ?_
     refine pat_and T.pf S32 f19 f31 ?_
     refine ⟨F27,_,_,_,_,t36,rfl,S32.sub,f19,f31,e37,fun v41 F38 H39 c40 f42 => ?_⟩
     have S43 := S32.call0 c40
     obtain ⟨f_shape_here,f_forms,f19,f31⟩ := up4 f_shape_here f_forms f19 f31 c40
     cases hm
     exact hQ _ _ _ S43 f42
    ·
     obtain ⟨t44,e45,hm⟩ := Zab hm
     refine Zaj <| Zai <| Zad <| rd_v rfl <| rd_v rfl ?_
     refine pat_or T.pf S32 f19 f31 ?_
     refine ⟨F27,_,_,_,_,t44,rfl,S32.sub,f19,f31,e45,fun v49 F46 H47 c48 f50 => ?_⟩
     have S51 := S32.call0 c48
     obtain ⟨f_shape_here,f_forms,f19,f31⟩ := up4 f_shape_here f_forms f19 f31 c48
     cases hm
     exact hQ _ _ _ S51 f50
def sp_law_line (K : PySem.W.Frag) : Sp := fun vs H Q _ => ∃ (F : Hp) (p_pool_here : Addr) (a_pool_here : Int × Int) (v_parts : V) (a_parts : (List Str)) (r : (Str × (Int × Int))),vs = [.ref p_pool_here,v_parts] ∧ Same F H ∧ Ow (fun a => a = p_pool_here) H F H p_pool_here (.lst [.int a_pool_here.1,.int a_pool_here.2]) ∧ (qL qS).r K F v_parts a_parts ∧ Zfb a_pool_here a_parts = some r ∧ ∀ v F' H',Sx (fun a => a = p_pool_here) F H F' H' → Ow (fun a => a = p_pool_here) H F' H' p_pool_here (.lst [.int r.2.1,.int r.2.2]) → qS.r K F' v r.1 → Q v H'
theorem sc_law_line : FnScope ["_law_pool_here","_law_parts","_law_line_here","_law_part"] ["_law_pool_here","_law_parts"] (defScope Ze0) := ⟨rfl,rfl,rfl,by decide +kernel,rfl,by decide +kernel,by decide +kernel⟩
theorem bn_law_line (T : Tx K mg) : Binds K (fdOf K ("_law_line",none)) ["_law_pool_here","_law_parts"] [] := FunD.bindsN T.F_law_line fun _ _ _ _ _ _ us hl => match us,hl with | [_,_],_ => rfl
theorem ok_law_line (T : Tx K mg) : FnOk P w K mg base CX0 3 (He.ga K "_law_line") (fdOf K ("_law_line",none)) ["_law_pool_here","_law_parts"] (sp_law_line K) := by
 refine FunD.ok T.F_law_line sc_law_line (fun vs H0 Q E h => ?_) (fun cdv A outer s H0 vs Q E hr h => ?_)
 ·
  obtain ⟨_,_,_,_,_,_,rfl,_⟩ := h
  rfl
 ·
  obtain ⟨F0,p_pool_here,a_pool_here,v_parts,a_parts,r,rfl,hE,w_pool_here,f_parts,hm,hQ⟩ := h
  refine ⟨_,PSs.nox ((pss_cons (ps_set (i := 2) sc_law_line.nd rfl (dk rfl) pe_str) (pss_cons (ps_for PassesOwn.never rfl (Zde (pv 1)) (pg_name (i := 3) sc_law_line.nd rfl (dk rfl)) (pss_one (ps_if (pt_cmpR Zb1 (pv 3) pe_str (nomark _)) (pss_one (ps_set (i := 2) sc_law_line.nd rfl (dk rfl) (pe_op Zb9 (pv 2) (pe_op op_repS (pe_ix ix_str pe_str (pe_call (Zar T) (hr.mono (by decide)) (by rfl) T.g_law_take T.F_law_take.kp (Zat T) .nil pass0 (pa_cons (pv 0) (pa_cons pe_int pa_nil))) (fun _ _ => rfl)) (pe_op op_add pe_int (pe_call (Zar T) (hr.mono (by decide)) (by rfl) T.g_law_take T.F_law_take.kp (Zat T) .nil pass0 (pa_cons (pv 0) (pa_cons pe_int pa_nil)))))))) (pss_one (ps_if (pt_cmpR Zb1 (pv 3) pe_str (nomark _)) (pss_one (ps_set (i := 2) sc_law_line.nd rfl (dk rfl) (pe_op Zb9 (pv 2) (pe_op op_repS (pe_ix ix_str pe_str (pe_call (Zar T) (hr.mono (by decide)) (by rfl) T.g_law_take T.F_law_take.kp (Zat T) .nil pass0 (pa_cons (pv 0) (pa_cons pe_int pa_nil))) (fun _ _ => rfl)) (pe_op op_add pe_int (pe_call (Zar T) (hr.mono (by decide)) (by rfl) T.g_law_take T.F_law_take.kp (Zat T) .nil pass0 (pa_cons (pv 0) (pa_cons pe_int pa_nil)))))))) (pss_one (ps_if (pt_cmpR Zb1 (pv 3) pe_str (nomark _)) (pss_one (ps_set (i := 2) sc_law_line.nd rfl (dk rfl) (pe_op Zb9 (pv 2) (pe_op op_repS (pe_call (Zi8 T) (hr.mono (by decide)) (by rfl) T.g_law_text T.F_law_text.kp (Zjl T) .nil pass0 (pa_cons (pv 0) pa_nil)) (pe_call (Zar T) (hr.mono (by decide)) (by rfl) T.g_law_take T.F_law_take.kp (Zat T) .nil pass0 (pa_cons (pv 0) (pa_cons pe_int pa_nil))))))) (pss_one (ps_set (i := 2) sc_law_line.nd rfl (dk rfl) (pe_op Zb9 (pv 2) (pv 3))))))))))) (pss_one (ps_ret (pv 2)))))),?_⟩
  have S : Sx (fun a => a = p_pool_here) F0 H0 F0 H0 := Sx.refl hE (Zjy w_pool_here)
  unfold Zfb at hm
  refine Zaf <| Zak <| rd_c <| Zam <| Zaf <| Zdv <| Zjr <| rd_v rfl ?_
  refine Zgq S (f_parts) (fun p1 vs2 hq3 row4 => ?_)
  obtain ⟨t5,e6,hm⟩ := Zab hm
  refine Zds Zgd (Zcc row4) e6 (fun (s7 : ((Int × Int) × Str)) σ H => ∃ (F : Hp) (o3 : Option V),σ = [some (V.ref p_pool_here),some v_parts,some (V.str (s7.2)),o3] ∧ Sx (fun a => a = p_pool_here) F0 H0 F H ∧ Ow (fun a => a = p_pool_here) H0 F H p_pool_here (.lst [V.int s7.1.1,V.int s7.1.2])) ?_ ?_ ?_ ?_
  ·
   rintro _ _ _ ⟨_,_,_,S8,_⟩
   exact (Same.seq S8.sub (Same.seq S8.le hq3))
  ·
   have S9 : Sx (fun a => a = p_pool_here) _ _ _ _ := Sx.refl S.sub (fun a z => by rw [z,w_pool_here.at_]; exact (fun h => nomatch h))
   have w10 : Ow (fun a => a = p_pool_here) H0 _ _ _ _ := ⟨w_pool_here.fr,w_pool_here.at_,.inr (rfl)⟩
   exact ⟨F0,_,rfl,S9,w10⟩
  ·
   rintro x11 v12 s13 c17 σ14 H15 f16 ⟨F18,o20,rfl,S19,w21⟩ hm24
   have f_parts := f_parts.up S19
   unfold Zfk at hm24
   cases (show v12 = (V.str (x11)) from f16)
   refine Zam <| Zal <| Zag <| Zad <| rd_v rfl <| rd_c <| Zc4 <| rd_b ?_
   refine if_b hm24 (fun b25 hm24 => ?_) (fun b25 hm24 => ?_)
   ·
    obtain ⟨t26,e27,hm24⟩ := Zab hm24
    refine Zak <| Zad <| rd_v rfl <| Zad <| Zad <| rd_c <| Zah <| Zaa <| rd_v rfl <| Zaa <| rd_c <| Zac ?_
    refine ⟨F18,_,_,_,t26,rfl,S19.sub,w21.arg,e27,fun v31 F28 H29 c30 w33 f32 => ?_⟩
    have S34 := S19.call1 c30 w21
    have f_parts := f_parts.up c30
    have w35 := w21.back w33
    cases (show v31 = (V.int (t26.1)) from f32)
    obtain ⟨t36,e37,hm24⟩ := Zab hm24
    obtain ⟨t38,e39,hm24⟩ := Zab hm24
    refine Zh7 e37 ?_
    refine Zad <| rd_c <| Zah <| Zaa <| rd_v rfl <| Zaa <| rd_c <| Zac ?_
    refine ⟨F28,_,_,_,t38,rfl,S34.sub,w35.arg,e39,fun v43 F40 H41 c42 w45 f44 => ?_⟩
    have S46 := S34.call1 c42 w35
    have f_parts := f_parts.up c42
    have w47 := w35.back w45
    cases (show v43 = (V.int (t38.1)) from f44)
    obtain ⟨g48,hm24⟩ := Zae hm24
    obtain ⟨g49,hm24⟩ := Zae hm24
    cases hm24
    refine Zax ?_
    refine rd_repS g48 ?_
    refine Zb7 g49 ?_
    refine Zam ?_
    exact ⟨F40,_,rfl,S46,w47⟩
   ·
    refine Zal <| Zag <| Zad <| rd_v rfl <| rd_c <| Zc4 <| rd_b ?_
    refine if_b hm24 (fun b50 hm24 => ?_) (fun b50 hm24 => ?_)
    ·
     obtain ⟨t51,e52,hm24⟩ := Zab hm24
     refine Zak <| Zad <| rd_v rfl <| Zad <| Zad <| rd_c <| Zah <| Zaa <| rd_v rfl <| Zaa <| rd_c <| Zac ?_
     refine ⟨F18,_,_,_,t51,rfl,S19.sub,w21.arg,e52,fun v56 F53 H54 c55 w58 f57 => ?_⟩
     have S59 := S19.call1 c55 w21
     have f_parts := f_parts.up c55
     have w60 := w21.back w58
     cases (show v56 = (V.int (t51.1)) from f57)
     obtain ⟨t61,e62,hm24⟩ := Zab hm24
     obtain ⟨t63,e64,hm24⟩ := Zab hm24
     refine Zh7 e62 ?_
     refine Zad <| rd_c <| Zah <| Zaa <| rd_v rfl <| Zaa <| rd_c <| Zac ?_
     refine ⟨F53,_,_,_,t63,rfl,S59.sub,w60.arg,e64,fun v68 F65 H66 c67 w70 f69 => ?_⟩
     have S71 := S59.call1 c67 w60
     have f_parts := f_parts.up c67
     have w72 := w60.back w70
     cases (show v68 = (V.int (t63.1)) from f69)
     obtain ⟨g73,hm24⟩ := Zae hm24
     obtain ⟨g74,hm24⟩ := Zae hm24
     cases hm24
     refine Zax ?_
     refine rd_repS g73 ?_
     refine Zb7 g74 ?_
     refine Zam ?_
     exact ⟨F65,_,rfl,S71,w72⟩
    ·
     refine Zal <| Zag <| Zad <| rd_v rfl <| rd_c <| Zc4 <| rd_b ?_
     refine if_b hm24 (fun b75 hm24 => ?_) (fun b75 hm24 => ?_)
     ·
      obtain ⟨t76,e77,hm24⟩ := Zab hm24
      refine Zak <| Zad <| rd_v rfl <| Zad <| Zah <| Zaa <| rd_v rfl <| Zac ?_
      refine ⟨F18,_,_,t76,rfl,S19.sub,w21.arg,e77,fun v81 F78 H79 c80 w83 f82 => ?_⟩
      have S84 := S19.call1 c80 w21
      have f_parts := f_parts.up c80
      have w85 := w21.back w83
      cases (show v81 = (V.str (t76.1)) from f82)
      obtain ⟨t86,e87,hm24⟩ := Zab hm24
      refine Zah <| Zaa <| rd_v rfl <| Zaa <| rd_c <| Zac ?_
      refine ⟨F78,_,_,_,t86,rfl,S84.sub,w85.arg,e87,fun v91 F88 H89 c90 w93 f92 => ?_⟩
      have S94 := S84.call1 c90 w85
      have f_parts := f_parts.up c90
      have w95 := w85.back w93
      cases (show v91 = (V.int (t86.1)) from f92)
      obtain ⟨g96,hm24⟩ := Zae hm24
      obtain ⟨g97,hm24⟩ := Zae hm24
      cases hm24
      refine rd_repS g96 ?_
      refine Zb7 g97 ?_
      refine Zam ?_
      exact ⟨F88,_,rfl,S94,w95⟩
     ·
      obtain ⟨g98,hm24⟩ := Zae hm24
      cases hm24
      refine Zak <| Zad <| rd_v rfl <| rd_v rfl ?_
      refine Zb7 g98 ?_
      refine Zam ?_
      exact ⟨F18,_,rfl,S19,w21⟩
  ·
   rintro σ99 H100 ⟨F101,o103,rfl,S102,w104⟩
   have S105 := S.call1 S102 w_pool_here
   have f_parts := f_parts.up S102
   have w106 : Ow (fun a => a = p_pool_here) H0 _ _ _ _ := ⟨w104.fr,w104.at_,w_pool_here.mine⟩
   cases hm
   refine Zai <| rd_v rfl ?_
   exact hQ _ _ _ S105 w106 rfl
def sp_law_holds (n : Nat) (K : PySem.W.Frag) : Sp := fun vs H Q _ => ∃ (F : Hp) (v_shape_here : V) (a_shape_here : Shp) (v_flags : V) (a_flags : (List Bool)) (r : Bool),vs = [v_shape_here,v_flags] ∧ Same F H ∧ qSh.r K F v_shape_here a_shape_here ∧ (qL qB).r K F v_flags a_flags ∧ Zcs n a_shape_here a_flags = some r ∧ ∀ v F' H',Sx P0 F H F' H' → qB.r K F' v r → Q v H'
theorem sc_law_holds : FnScope ["_law_shape_here","_law_flags","_law_one","_law_other"] ["_law_shape_here","_law_flags"] (defScope Zd8) := ⟨rfl,rfl,rfl,by decide +kernel,rfl,by decide +kernel,by decide +kernel⟩
theorem Zgh (T : Tx K mg) : Binds K (fdOf K ("_law_holds",none)) ["_law_shape_here","_law_flags"] [] := FunD.bindsN T.F_law_holds fun _ _ _ _ _ _ us hl => match us,hl with | [_,_],_ => rfl
theorem ok_law_holds (T : Tx K mg) : ∀ n : Nat,FnOk P w K mg base CX0 (n + 0 + 1) (He.ga K "_law_holds") (fdOf K ("_law_holds",none)) ["_law_shape_here","_law_flags"] (sp_law_holds n K) := by
 intro n
 induction n with
 | zero =>
  refine FunD.ok T.F_law_holds sc_law_holds (fun vs H0 Q E h => ?_) (fun cdv A outer s H0 vs Q E hr h => ?_)
  ·
   obtain ⟨_,_,_,_,_,_,rfl,_⟩ := h
   rfl
  ·
   obtain ⟨F0,v_shape_here,a_shape_here,v_flags,a_flags,r,rfl,hE,f_shape_here,f_flags,hm,hQ⟩ := h
   unfold Zcs at hm
   cases hm
 | succ n ih =>
  refine FunD.ok T.F_law_holds sc_law_holds (fun vs H0 Q E h => ?_) (fun cdv A outer s H0 vs Q E hr h => ?_)
  ·
   obtain ⟨_,_,_,_,_,_,rfl,_⟩ := h
   rfl
  ·
   obtain ⟨F0,v_shape_here,a_shape_here,v_flags,a_flags,r,rfl,hE,f_shape_here,f_flags,hm,hQ⟩ := h
   refine ⟨_,PSs.nox ((pss_cons (ps_if (pt_cmpR Zc5 (pe_callB (r := Zc9 K) Za3 (by rfl) T.n_len (by decide +kernel) (pa_cons (pv 0) pa_nil)) pe_int (nomark _)) (pss_one (ps_ret (pe_ix (r := rIxL K) ix_list (pv 1) (pe_ix (r := rIxL K) ix_list (pv 0) pe_int (fun _ _ => rfl)) (fun _ _ => rfl)))) pss_nil) (pss_cons (ps_set (i := 2) sc_law_holds.nd rfl (dk rfl) (pe_call ih (hr.mono (by omega)) (by rfl) T.g_law_holds T.F_law_holds.kp (Zgh T) .nil pass0 (pa_cons (pe_ix (r := rIxL K) ix_list (pv 0) pe_int (fun _ _ => rfl)) (pa_cons (pv 1) pa_nil)))) (pss_cons (ps_set (i := 3) sc_law_holds.nd rfl (dk rfl) (pe_call ih (hr.mono (by omega)) (by rfl) T.g_law_holds T.F_law_holds.kp (Zgh T) .nil pass0 (pa_cons (pe_ix (r := rIxL K) ix_list (pv 0) pe_int (fun _ _ => rfl)) (pa_cons (pv 1) pa_nil)))) (pss_one (ps_ret (pe_ifExp (pt_cmpR Zb1 (pe_ix (r := rIxL K) ix_list (pv 0) pe_int (fun _ _ => rfl)) pe_str (nomark _)) (pe_and (pv 2) (pe_one (pv 3))) (pe_or (pv 2) (pe_one (pv 3)))))))))),?_⟩
   have S : Sx P0 F0 H0 F0 H0 := Sx.refl0 hE
   unfold Zcs at hm
   refine Zaf <| Zal <| Zag <| Zad <| Zay <| Zaa <| rd_v rfl <| Zac ?_
   refine Zkn S f_shape_here ?_
   refine rd_c <| Zax <| rd_b ?_
   refine if_b hm (fun b1 hm => ?_) (fun b1 hm => ?_)
   ·
    obtain ⟨t2,e3,hm⟩ := Zab hm
    obtain ⟨t4,e5,hm⟩ := Zab hm
    refine Zai <| Zad <| rd_v rfl <| Zad <| rd_v rfl <| rd_c ?_
    refine rd_shN S f_shape_here e3 ?_
    refine Zbp (S.l f_flags).r e5 (fun u6 f7 => ?_)
    cases (show u6 = (V.bl (t4)) from f7)
    cases hm
    exact hQ _ _ _ S rfl
   ·
    obtain ⟨t8,e9,hm⟩ := Zab hm
    refine Zaj <| Zaf <| Zak <| Zah <| Zaa <| Zad <| rd_v rfl <| rd_c ?_
    refine rd_shL S f_shape_here e9 (fun u10 f11 => ?_)
    obtain ⟨t12,e13,hm⟩ := Zab hm
    refine Zaa <| rd_v rfl <| Zac ?_
    refine ⟨F0,_,_,_,_,t12,rfl,S.sub,f11,f_flags,e13,fun v17 F14 H15 c16 f18 => ?_⟩
    have S19 := S.call0 c16
    obtain ⟨f_shape_here,f_flags⟩ := up2 f_shape_here f_flags c16
    cases (show v17 = (V.bl (t12)) from f18)
    obtain ⟨t20,e21,hm⟩ := Zab hm
    refine Zam <| Zaf <| Zak <| Zah <| Zaa <| Zad <| rd_v rfl <| rd_c ?_
    refine rd_shR S19 f_shape_here e21 (fun u22 f23 => ?_)
    obtain ⟨t24,e25,hm⟩ := Zab hm
    refine Zaa <| rd_v rfl <| Zac ?_
    refine ⟨F14,_,_,_,_,t24,rfl,S19.sub,f23,f_flags,e25,fun v29 F26 H27 c28 f30 => ?_⟩
    have S31 := S19.call0 c28
    obtain ⟨f_shape_here,f_flags⟩ := up2 f_shape_here f_flags c28
    cases (show v29 = (V.bl (t24)) from f30)
    obtain ⟨t32,e33,hm⟩ := Zab hm
    obtain ⟨t34,e35,hm⟩ := Zab hm
    refine Zam <| Zai ?_
    refine rd_ifE ?_
    refine Zag <| Zad <| Zad <| rd_v rfl <| rd_c ?_
    refine rd_shO S31 f_shape_here e33 ?_
    refine rd_c <| Zc4 <| rd_b ?_
    refine ifE_j (fun c H' => ∃ F',c = (V.bl (t34)) ∧ Sx P0 F26 H27 F' H') ?_ ?_ ?_
    ·
     intro b36 Q37 q38
     have hm39 := if_t e35 b36
     have S40 := Sx.refl0 S31.sub
     cases hm39
     refine Zf4 <| rd_v rfl <| rd_b ?_
     refine andV_p (by intro _ Q' q; refine rd_v rfl ?_; exact q) ?_
     exact q38 _ _ ⟨F26,rfl,S40⟩
    ·
     intro b41 Q42 q43
     have hm44 := if_f e35 b41
     have S45 := Sx.refl0 S31.sub
     cases hm44
     refine rd_orV <| rd_v rfl <| rd_b ?_
     refine orV_p (by intro _ Q' q; refine rd_v rfl ?_; exact q) ?_
     exact q43 _ _ ⟨F26,rfl,S45⟩
    rintro v49 H47 ⟨F46,f50,c48⟩
    have S51 := S31.call0 c48
    obtain ⟨f_shape_here,f_flags⟩ := up2 f_shape_here f_flags c48
    cases (show v49 = (V.bl (t34)) from f50)
    cases hm
    exact hQ _ _ _ S51 rfl
def sp_law_form (K : PySem.W.Frag) : Sp := fun vs H Q _ => ∃ (F : Hp) (v_parts : V) (a_parts : (List Str)) (r : (List Str)),vs = [v_parts] ∧ Same F H ∧ (qL qS).r K F v_parts a_parts ∧ Zdd a_parts = some r ∧ ∀ v F' H',Sx P0 F H F' H' → qForm.r K F' v r → Q v H'
theorem sc_law_form : FnScope ["_law_parts"] ["_law_parts"] (defScope Ze1) := ⟨rfl,rfl,rfl,by decide +kernel,rfl,by decide +kernel,by decide +kernel⟩
theorem bn_law_form (T : Tx K mg) : Binds K (fdOf K ("_law_form",none)) ["_law_parts"] [] := FunD.bindsN T.F_law_form fun _ _ _ _ _ _ us hl => match us,hl with | [_],_ => rfl
theorem ok_law_form (T : Tx K mg) : FnOk P w K mg base CX0 5 (He.ga K "_law_form") (fdOf K ("_law_form",none)) ["_law_parts"] (sp_law_form K) := by
 refine FunD.ok T.F_law_form sc_law_form (fun vs H0 Q E h => ?_) (fun cdv A outer s H0 vs Q E hr h => ?_)
 ·
  obtain ⟨_,_,_,_,rfl,_⟩ := h
  rfl
 ·
  obtain ⟨F0,v_parts,a_parts,r,rfl,hE,f_parts,hm,hQ⟩ := h
  refine ⟨_,PSs.nox ((pss_cons (ps_if (pt_cmpR Zc5 (pe_callB (r := Zc9 K) Za3 (by rfl) T.n_len (by decide +kernel) (pa_cons (pv 0) pa_nil)) pe_int (nomark _)) (pss_one (ps_ret (StX.pe_makeR T.mk_Form (Zbz T) (hr.mono (by decide)) (by rfl) T.gc_Form pass0 (pa_cons (pe_ix (r := rIxL K) ix_list (pv 0) pe_int (fun _ _ => rfl)) pa_nil)))) pss_nil) (pss_cons (ps_if (pt_cmpR Zc5 (pe_callB (r := Zc9 K) Za3 (by rfl) T.n_len (by decide +kernel) (pa_cons (pv 0) pa_nil)) pe_int (nomark _)) (pss_one (ps_ret (StX.pe_makeR T.mk_Form (Zbz T) (hr.mono (by decide)) (by rfl) T.gc_Form pass0 (pa_cons (pe_ix (r := rIxL K) ix_list (pv 0) pe_int (fun _ _ => rfl)) (pa_cons (pe_ix (r := rIxL K) ix_list (pv 0) pe_int (fun _ _ => rfl)) pa_nil))))) pss_nil) (pss_cons (ps_if (pt_cmpR Zc5 (pe_callB (r := Zc9 K) Za3 (by rfl) T.n_len (by decide +kernel) (pa_cons (pv 0) pa_nil)) pe_int (nomark _)) (pss_one (ps_ret (StX.pe_makeR T.mk_Form (Zbz T) (hr.mono (by decide)) (by rfl) T.gc_Form pass0 (pa_cons (pe_ix (r := rIxL K) ix_list (pv 0) pe_int (fun _ _ => rfl)) (pa_cons (pe_ix (r := rIxL K) ix_list (pv 0) pe_int (fun _ _ => rfl)) (pa_cons (pe_ix (r := rIxL K) ix_list (pv 0) pe_int (fun _ _ => rfl)) pa_nil)))))) pss_nil) (pss_one (ps_ret (StX.pe_makeR T.mk_Form (Zbz T) (hr.mono (by decide)) (by rfl) T.gc_Form pass0 (pa_cons (pe_ix (r := rIxL K) ix_list (pv 0) pe_int (fun _ _ => rfl)) (pa_cons (pe_ix (r := rIxL K) ix_list (pv 0) pe_int (fun _ _ => rfl)) (pa_cons (pe_ix (r := rIxL K) ix_list (pv 0) pe_int (fun _ _ => rfl)) (pa_cons (pe_ix (r := rIxL K) ix_list (pv 0) pe_int (fun _ _ => rfl)) pa_nil))))))))))),?_⟩
  have S : Sx P0 F0 H0 F0 H0 := Sx.refl0 hE
  unfold Zdd at hm
  refine Zaf <| Zal <| Zag <| Zad <| Zay <| Zaa <| rd_v rfl <| Zac ?_
  refine Zbi (S.l f_parts).r.q ?_
  refine rd_c <| Zax <| rd_b ?_
  refine if_b hm (fun b1 hm => ?_) (fun b1 hm => ?_)
  ·
   obtain ⟨t2,e3,hm⟩ := Zab hm
   refine Zai ?_
   refine Ziq ?_
   refine Zaa <| Zad <| rd_v rfl <| rd_c ?_
   refine Zbp (S.l f_parts).r e3 (fun u4 f5 => ?_)
   cases (show u4 = (V.str (t2)) from f5)
   obtain ⟨t6,e7,hm⟩ := Zab hm
   refine Zac ?_
   refine Zhg S (.cons rfl .nil) rfl e7 (fun v8 F9 H10 c11 f12 => ?_)
   have S13 := S.call0 c11
   have f_parts := f_parts.up c11
   cases hm
   exact hQ _ _ _ S13 f12
  ·
   refine Zaj <| Zaf <| Zal <| Zag <| Zad <| Zay <| Zaa <| rd_v rfl <| Zac ?_
   refine Zbi (S.l f_parts).r.q ?_
   refine rd_c <| Zax <| rd_b ?_
   refine if_b hm (fun b14 hm => ?_) (fun b14 hm => ?_)
   ·
    obtain ⟨t15,e16,hm⟩ := Zab hm
    refine Zai ?_
    refine Ziq ?_
    refine Zaa <| Zad <| rd_v rfl <| rd_c ?_
    refine Zbp (S.l f_parts).r e16 (fun u17 f18 => ?_)
    cases (show u17 = (V.str (t15)) from f18)
    obtain ⟨t19,e20,hm⟩ := Zab hm
    refine Zaa <| Zad <| rd_v rfl <| rd_c ?_
    refine Zbp (S.l f_parts).r e20 (fun u21 f22 => ?_)
    cases (show u21 = (V.str (t19)) from f22)
    obtain ⟨t23,e24,hm⟩ := Zab hm
    refine Zac ?_
    refine Zhg S (.cons rfl (.cons rfl .nil)) rfl e24 (fun v25 F26 H27 c28 f29 => ?_)
    have S30 := S.call0 c28
    have f_parts := f_parts.up c28
    cases hm
    exact hQ _ _ _ S30 f29
   ·
    refine Zaj <| Zaf <| Zal <| Zag <| Zad <| Zay <| Zaa <| rd_v rfl <| Zac ?_
    refine Zbi (S.l f_parts).r.q ?_
    refine rd_c <| Zax <| rd_b ?_
    refine if_b hm (fun b31 hm => ?_) (fun b31 hm => ?_)
    ·
     obtain ⟨t32,e33,hm⟩ := Zab hm
     refine Zai ?_
     refine Ziq ?_
     refine Zaa <| Zad <| rd_v rfl <| rd_c ?_
     refine Zbp (S.l f_parts).r e33 (fun u34 f35 => ?_)
     cases (show u34 = (V.str (t32)) from f35)
     obtain ⟨t36,e37,hm⟩ := Zab hm
     refine Zaa <| Zad <| rd_v rfl <| rd_c ?_
     refine Zbp (S.l f_parts).r e37 (fun u38 f39 => ?_)
     cases (show u38 = (V.str (t36)) from f39)
     obtain ⟨t40,e41,hm⟩ := Zab hm
     refine Zaa <| Zad <| rd_v rfl <| rd_c ?_
     refine Zbp (S.l f_parts).r e41 (fun u42 f43 => ?_)
     cases (show u42 = (V.str (t40)) from f43)
     obtain ⟨t44,e45,hm⟩ := Zab hm
     refine Zac ?_
     refine Zhg S (.cons rfl (.cons rfl (.cons rfl .nil))) rfl e45 (fun v46 F47 H48 c49 f50 => ?_)
     have S51 := S.call0 c49
     have f_parts := f_parts.up c49
     cases hm
     exact hQ _ _ _ S51 f50
    ·
     obtain ⟨t52,e53,hm⟩ := Zab hm
     refine Zaj <| Zai ?_
     refine Ziq ?_
     refine Zaa <| Zad <| rd_v rfl <| rd_c ?_
     refine Zbp (S.l f_parts).r e53 (fun u54 f55 => ?_)
     cases (show u54 = (V.str (t52)) from f55)
     obtain ⟨t56,e57,hm⟩ := Zab hm
     refine Zaa <| Zad <| rd_v rfl <| rd_c ?_
     refine Zbp (S.l f_parts).r e57 (fun u58 f59 => ?_)
     cases (show u58 = (V.str (t56)) from f59)
     obtain ⟨t60,e61,hm⟩ := Zab hm
     refine Zaa <| Zad <| rd_v rfl <| rd_c ?_
     refine Zbp (S.l f_parts).r e61 (fun u62 f63 => ?_)
     cases (show u62 = (V.str (t60)) from f63)
     obtain ⟨t64,e65,hm⟩ := Zab hm
     refine Zaa <| Zad <| rd_v rfl <| rd_c ?_
     refine Zbp (S.l f_parts).r e65 (fun u66 f67 => ?_)
     cases (show u66 = (V.str (t64)) from f67)
     obtain ⟨t68,e69,hm⟩ := Zab hm
     refine Zac ?_
     refine Zhg S (.cons rfl (.cons rfl (.cons rfl (.cons rfl .nil)))) rfl e69 (fun v70 F71 H72 c73 f74 => ?_)
     have S75 := S.call0 c73
     have f_parts := f_parts.up c73
     cases hm
     exact hQ _ _ _ S75 f74
def sp_law_takes (K : PySem.W.Frag) : Sp := fun vs H Q _ => ∃ (F : Hp) (a_part : Str) (a_sign : Str) (r : Bool),vs = [(V.str (a_part)),(V.str (a_sign))] ∧ Same F H ∧ Zdc a_part a_sign = some r ∧ ∀ v F' H',Sx P0 F H F' H' → qB.r K F' v r → Q v H'
theorem sc_law_takes : FnScope ["_law_part","_law_sign"] ["_law_part","_law_sign"] (defScope Zd6) := ⟨rfl,rfl,rfl,by decide +kernel,rfl,by decide +kernel,by decide +kernel⟩
theorem bn_law_takes (T : Tx K mg) : Binds K (fdOf K ("_law_takes",none)) ["_law_part","_law_sign"] [] := FunD.bindsN T.F_law_takes fun _ _ _ _ _ _ us hl => match us,hl with | [_,_],_ => rfl
theorem ok_law_takes (T : Tx K mg) : FnOk P w K mg base CX0 1 (He.ga K "_law_takes") (fdOf K ("_law_takes",none)) ["_law_part","_law_sign"] (sp_law_takes K) := by
 refine FunD.ok T.F_law_takes sc_law_takes (fun vs H0 Q E h => ?_) (fun cdv A outer s H0 vs Q E hr h => ?_)
 ·
  obtain ⟨_,_,_,_,rfl,_⟩ := h
  rfl
 ·
  obtain ⟨F0,a_part,a_sign,r,rfl,hE,hm,hQ⟩ := h
  refine ⟨_,PSs.nox ((pss_cons (ps_if (pt_cmpR Zb1 (pv 0) pe_str (nomark _)) (pss_one (ps_ret (pe_cmpR Zj4 (pv 1) pe_str rfl))) pss_nil) (pss_one (ps_ret (pe_and (pe_cmpR Zb1 (pv 0) pe_str (nomark _)) (pe_one (pe_cmpR Zj4 (pv 1) pe_str rfl))))))),?_⟩
  have S : Sx P0 F0 H0 F0 H0 := Sx.refl0 hE
  unfold Zdc at hm
  refine Zaf <| Zal <| Zag <| Zad <| rd_v rfl <| rd_c <| Zc4 <| rd_b ?_
  refine if_b hm (fun b1 hm => ?_) (fun b1 hm => ?_)
  ·
   cases hm
   refine Zai <| Zad <| rd_v rfl <| rd_c ?_
   refine Zh0 ?_
   exact hQ _ _ _ S rfl
  ·
   cases hm
   refine Zaj <| Zai <| Zf4 <| Zad <| rd_v rfl <| rd_c <| Zc4 <| rd_b ?_
   refine andV_p (by intro _ Q' q; refine Zad ?_; refine rd_v rfl ?_; refine rd_c ?_; refine Zh0 ?_; exact q) ?_
   exact hQ _ _ _ S rfl
def sp_law_ends (K : PySem.W.Frag) : Sp := fun vs H Q _ => ∃ (F : Hp) (a_part : Str) (a_line_here : Str) (a_at : Int) (r : (List Int)),vs = [(V.str (a_part)),(V.str (a_line_here)),(V.int (a_at))] ∧ Same F H ∧ Zfc a_part a_line_here a_at = some r ∧ ∀ v F' H',Sx P0 F H F' H' → (qL qI).r K F' v r → Q v H'
theorem sc_law_ends : FnScope ["_law_part","_law_line_here","_law_at","_law_found","_law_end"] ["_law_part","_law_line_here","_law_at"] (defScope Ze2) := ⟨rfl,rfl,rfl,by decide +kernel,rfl,by decide +kernel,by decide +kernel⟩
theorem bn_law_ends (T : Tx K mg) : Binds K (fdOf K ("_law_ends",none)) ["_law_part","_law_line_here","_law_at"] [] := FunD.bindsN T.F_law_ends fun _ _ _ _ _ _ us hl => match us,hl with | [_,_,_],_ => rfl
theorem ok_law_ends (T : Tx K mg) : FnOk P w K mg base CX0 2 (He.ga K "_law_ends") (fdOf K ("_law_ends",none)) ["_law_part","_law_line_here","_law_at"] (sp_law_ends K) := by
 refine FunD.ok T.F_law_ends sc_law_ends (fun vs H0 Q E h => ?_) (fun cdv A outer s H0 vs Q E hr h => ?_)
 ·
  obtain ⟨_,_,_,_,_,rfl,_⟩ := h
  rfl
 ·
  obtain ⟨F0,a_part,a_line_here,a_at,r,rfl,hE,hm,hQ⟩ := h
  refine ⟨_,PSs.nox ((pss_cons (ps_if (pt_cmpR Zb1 (pv 0) pe_str (nomark _)) (pss_one (ps_ret (pe_listRg rfl (by rfl) T.n_list (prg_2 (by rfl) T.n_range (pv 2) (pe_op op_add (pe_callB Zeu (by rfl) T.n_len (by decide +kernel) (pa_cons (pv 1) pa_nil)) pe_int))))) pss_nil) (pss_cons (ps_set (i := 3) sc_law_ends.nd rfl (dk rfl) (pe_lst pa_nil)) (C8.pss_cut (ps_if (pt_cmpR (r := rIn K false) op_in_seq (pv 0) (pe_tup (pa_cons pe_str (pa_cons pe_str pa_nil))) rfl) (pss_cons (ps_set (i := 4) sc_law_ends.nd rfl (dk rfl) (pv 2)) (pss_one (ps_while PassesOwn.never (PW.pt (pw_and (pt_cmpR op_lt (pv 4) (pe_callB Zeu (by rfl) T.n_len (by decide +kernel) (pa_cons (pv 1) pa_nil)) (nomark _)) (pw_and1 (pt_val (pe_call (ok_law_takes T) (hr.mono (by decide)) (by rfl) T.g_law_takes T.F_law_takes.kp (bn_law_takes T) .nil pass0 (pa_cons (pv 0) (pa_cons (pe_ix ix_str (pv 1) (pv 4) (fun _ _ => rfl)) pa_nil))))))) (pss_cons (ps_set (i := 4) sc_law_ends.nd rfl (dk rfl) (pe_op op_add (pv 4) pe_int)) (pss_one (ps_expr (Zcv (K := K) PySem.F.plainAttrs_list PySem.F.slot_list_append PySem.F.type_list_append mt_append (pv 3) (pa_cons (pv 4) pa_nil)))))))) (pss_one (ps_if (pt_cmpR Zb1 (pe_slice sl_str (pv 1) (po_some (pv 2)) (po_some (pe_op op_add (pv 2) (pe_callB Zeu (by rfl) T.n_len (by decide +kernel) (pa_cons (pv 0) pa_nil))))) (pv 0) (nomark _)) (pss_one (ps_expr (Zcv (K := K) PySem.F.plainAttrs_list PySem.F.slot_list_append PySem.F.type_list_append mt_append (pv 3) (pa_cons (pe_op op_add (pv 2) (pe_callB Zeu (by rfl) T.n_len (by decide +kernel) (pa_cons (pv 0) pa_nil))) pa_nil)))) pss_nil))) (pss_one (ps_ret (pv 3))))))),?_⟩
  have S : Sx P0 F0 H0 F0 H0 := Sx.refl0 hE
  unfold Zfc at hm
  refine Zaf <| Zal <| Zag <| Zad <| rd_v rfl <| rd_c <| Zc4 <| rd_b ?_
  refine if_b hm (fun b1 hm => ?_) (fun b1 hm => ?_)
  ·
   obtain ⟨g2,hm⟩ := Zae hm
   obtain ⟨g3,hm⟩ := Zae hm
   refine Zai ?_
   refine rd_lrg ?_
   refine rd_g2 ?_
   refine rd_v rfl <| Zad <| Zay <| Zaa <| rd_v rfl <| Zac ?_
   refine Zem g2 ?_
   refine rd_c <| Zax ?_
   refine rd_g2i ?_
   refine rd_lrgE (K := K) (F := F0) g3 ?_
   refine alL' S (fun v4 F5 H6 c7 f8 => ?_)
   have S9 := S.call0 c7
   cases hm
   exact hQ _ _ _ S9 f8
  ·
   refine Zaj <| Zaf <| Zak <| Zcz <| Zac <| Zfg rfl ?_
   refine al S (fun p10 H11 np12 c13 w14 => ?_)
   have z16 := S.free0 np12
   have S17 := S.call0 c13
   have r18 : Row qI K F0 [] ([] : List Int) := .nil
   obtain ⟨t19,e20,hm⟩ := Zab hm
   refine Zam ?_
   refine rd_cut (fun σ' H' => ∃ (F : Hp) (o4 : Option V) (vs0 : List V),σ' = [some (V.str (a_part)),some (V.str (a_line_here)),some (V.int (a_at)),some (V.ref p10),o4] ∧ Sx (fun a => a = p10) F0 H11 F H' ∧ Ow (fun a => a = p10) H11 F H' p10 (.lst vs0) ∧ Row qI K F vs0 t19) ?_ ?_
   ·
    have S21 : Sx (fun a => a = p10) _ _ _ _ := Sx.refl S17.sub (fun a z => by rw [z,w14.at_]; exact (fun h => nomatch h))
    have w22 : Ow (fun a => a = p10) H11 _ _ _ _ := ⟨w14.fr,w14.at_,.inr (rfl)⟩
    refine Zal <| Zag <| Zad <| rd_v rfl <| rd_tup <| Zaa <| rd_c <| Zaa <| rd_c <| Zac <| rd_uK rfl ?_
    refine alT (K := K) (A := qS) (xs := [("<digits>" : Str),("<word>" : Str)]) S21 (.cons rfl (.cons rfl .nil)) (fun v23 F24 H25 c26 f27 => ?_)
    have S28 := S21.call0 c26
    have r18 := Row.mono c26.le r18
    have w22 := w22.call0 c26
    refine rd_inS (S28.t f27).q ?_
    refine rd_b ?_
    refine if_b e20 (fun b29 e20 => ?_) (fun b29 e20 => ?_)
    ·
     obtain ⟨t30,e31,e20⟩ := Zab e20
     refine Zaf <| Zak <| rd_v rfl <| Zam ?_
     refine Zi2 e31 (fun (s32 : ((List Int) × Int)) σ H => ∃ (F : Hp) (vs0 : List V),σ = [some (V.str (a_part)),some (V.str (a_line_here)),some (V.int (a_at)),some (V.ref p10),some (V.int (s32.2))] ∧ Sx (fun a => a = p10) F24 H25 F H ∧ Ow (fun a => a = p10) H25 F H p10 (.lst vs0) ∧ Row qI K F vs0 s32.1) ?_ ?_ ?_ ?_
     ·
      have S33 : Sx (fun a => a = p10) _ _ _ _ := Sx.refl S28.sub (fun a z => by rw [z,w22.at_]; exact (fun h => nomatch h))
      have w34 : Ow (fun a => a = p10) H25 _ _ _ _ := ⟨w22.fr,w22.at_,.inr (rfl)⟩
      exact ⟨F24,_,rfl,S33,w34,r18⟩
     ·
      rintro s35 b36 σ37 H38 T39 E40 ⟨F44,v46,rfl,S45,w47,r48⟩ hm43 hT41 hE42
      unfold Zfp at hm43
      obtain ⟨g49,hm43⟩ := Zae hm43
      obtain ⟨t60,e61,hm43⟩ := Zab hm43
      refine Zfw <| Zag <| Zad <| rd_v rfl <| Zay <| Zaa <| rd_v rfl <| Zac ?_
      refine Zem g49 ?_
      refine Zax <| rd_b ?_
      refine and_j (fun c H' => c = t60 ∧ ∃ F',Sx P0 F44 H38 F' H') ?_ ?_ ?_
      ·
       intro b62 Q63 q64
       have e61 := if_t e61 b62
       have S65 := Sx.refl0 S45.sub
       obtain ⟨t66,e67,e61⟩ := Zab e61
       obtain ⟨t68,e69,e61⟩ := Zab e61
       refine Zgz <| Zah <| Zaa <| rd_v rfl <| Zaa <| Zad <| rd_v rfl <| rd_v rfl ?_
       refine Zh7 e67 ?_
       refine Zac ?_
       refine ⟨F44,_,_,t68,rfl,S65.sub,e69,fun v73 F70 H71 c72 f74 => ?_⟩
       have S75 := S65.call0 c72
       have r48 := Row.mono c72.le r48
       have w47 := w47.call0 c72
       cases (show v73 = (V.bl (t68)) from f74)
       cases e61
       refine rd_b ?_
       exact q64 _ _ ⟨rfl,F70,S75⟩
      ·
       intro b62
       have e61 := if_f e61 b62
       cases e61
       have S76 := Sx.refl0 S45.sub
       exact ⟨rfl,F44,S76⟩
      rintro b80 H78 ⟨rfl,F77,c79⟩
      have S81 := S45.call0 c79
      have r48 := Row.mono c79.le r48
      have w47 := w47.call0 c79
      refine if_j (fun b82 => ?_) (fun b82 => ?_)
      ·
       cases hm43; exact hT41 _ _ b82 ⟨F77,_,rfl,S81,w47,r48⟩
      ·
       cases hm43; exact hE42 _ _ b82 ⟨F77,_,rfl,S81,w47,r48⟩
     ·
      rintro s83 s84 σ85 H86 ⟨F90,v92,rfl,S91,w93,r94⟩ hm87
      unfold Zfo at hm87
      obtain ⟨g95,hm87⟩ := Zae hm87
      refine Zaf <| Zak <| Zad <| rd_v rfl <| rd_c <| Zax <| Zam <| Zc0 <| Ze5 <| rd_v rfl <| Ze4 w93.ty <| Zaa <| rd_v rfl <| Zac ?_
      refine ap S91 w93 r94 g95 (fun H96 c97 w98 => ?_)
      have r99 := r94.snoc (show qI.r K F90 _ (s83.2 + 1) from rfl)
      have S100 := S91.call1 c97 w93
      have r99 := Row.mono c97.le r99
      cases hm87
      exact ⟨F90,_,rfl,S100,w98,r99⟩
     ·
      rintro σ101 H102 ⟨F103,v105,rfl,S104,w106,r107⟩
      have S108 := S28.call1 S104 w22
      have w109 : Ow (fun a => a = p10) H11 _ _ _ _ := ⟨w106.fr,w106.at_,w22.mine⟩
      cases e20
      exact ⟨F103,_,_,rfl,S108,w109,r107⟩
    ·
     obtain ⟨g110,e20⟩ := Zae e20
     obtain ⟨g111,e20⟩ := Zae e20
     refine Zal <| Zag <| Zad ?_
     refine Zel ?_
     refine rd_v rfl ?_
     refine Zdr ?_
     refine rd_v rfl ?_
     refine rd_i ?_
     refine Zdr ?_
     refine Zad <| rd_v rfl <| Zay <| Zaa <| rd_v rfl <| Zac ?_
     refine Zem g110 ?_
     refine Zax ?_
     refine rd_i ?_
     refine Zeg g111 ?_
     refine rd_v rfl <| Zc4 <| rd_b ?_
     refine if_b e20 (fun b112 e20 => ?_) (fun b112 e20 => ?_)
     ·
      obtain ⟨g113,e20⟩ := Zae e20
      obtain ⟨g114,e20⟩ := Zae e20
      refine Zc0 <| Ze5 <| rd_v rfl <| Ze4 w22.ty <| Zaa <| Zad <| rd_v rfl <| Zay <| Zaa <| rd_v rfl <| Zac ?_
      refine Zem g113 ?_
      refine Zax <| Zac ?_
      refine ap S28 w22 r18 g114 (fun H115 c116 w117 => ?_)
      have r118 := r18.snoc (show qI.r K F24 _ (a_at + ((a_part).length : Int)) from rfl)
      have S119 := S28.call1 c116 w22
      have r118 := Row.mono c116.le r118
      cases e20
      exact ⟨F24,_,_,rfl,S119,w117,r118⟩
     ·
      cases e20
      refine Zaj ?_
      exact ⟨F24,_,_,rfl,S28,w22,r18⟩
   ·
    rintro σ121 H120 ⟨F122,o124,v125,rfl,S123,w126,r127⟩
    have S128 := S17.call1 S123 w14
    have w129 : Ow P0 H0 _ _ _ _ := ⟨w126.fr,w126.at_,w14.mine⟩
    obtain ⟨F130,S131,le132,f133,_,eq134⟩ := fz S128 w129 z16 r127
    cases hm
    refine Zai <| rd_v rfl ?_
    exact hQ _ _ _ S131 f133
def sp_law_fits (K : PySem.W.Frag) : Sp := fun vs H Q _ => ∃ (F : Hp) (v_parts : V) (a_parts : (List Str)) (a_line_here : Str) (r : Bool),vs = [v_parts,(V.str (a_line_here))] ∧ Same F H ∧ (qL qS).r K F v_parts a_parts ∧ Zd2 a_parts a_line_here = some r ∧ ∀ v F' H',Sx P0 F H F' H' → qB.r K F' v r → Q v H'
theorem sc_law_fits : FnScope ["_law_parts","_law_line_here","_law_places","_law_part","_law_more","_law_at","_law_end"] ["_law_parts","_law_line_here"] (defScope Zdz) := ⟨rfl,rfl,rfl,by decide +kernel,rfl,by decide +kernel,by decide +kernel⟩
theorem bn_law_fits (T : Tx K mg) : Binds K (fdOf K ("_law_fits",none)) ["_law_parts","_law_line_here"] [] := FunD.bindsN T.F_law_fits fun _ _ _ _ _ _ us hl => match us,hl with | [_,_],_ => rfl
theorem ok_law_fits (T : Tx K mg) : FnOk P w K mg base CX0 3 (He.ga K "_law_fits") (fdOf K ("_law_fits",none)) ["_law_parts","_law_line_here"] (sp_law_fits K) := by
 refine FunD.ok T.F_law_fits sc_law_fits (fun vs H0 Q E h => ?_) (fun cdv A outer s H0 vs Q E hr h => ?_)
 ·
  obtain ⟨_,_,_,_,_,rfl,_⟩ := h
  rfl
 ·
  obtain ⟨F0,v_parts,a_parts,a_line_here,r,rfl,hE,f_parts,hm,hQ⟩ := h
  refine ⟨_,PSs.nox ((pss_cons (ps_set (i := 2) sc_law_fits.nd rfl (dk rfl) (pe_lst (pa_cons pe_int pa_nil))) (pss_cons (ps_for PassesOwn.never rfl (Zde (pv 0)) (pg_name (i := 3) sc_law_fits.nd rfl (dk rfl)) (pss_cons (ps_set (i := 4) sc_law_fits.nd rfl (dk rfl) (pe_lst pa_nil)) (pss_cons (ps_for PassesOwn.never rfl (Zde (pv 2)) (pg_name (i := 5) sc_law_fits.nd rfl (dk rfl)) (pss_one (ps_set (i := 4) sc_law_fits.nd rfl (dk rfl) (pe_op op_cat (pv 4) (pe_lc (own := [("_law_end",6)]) rfl sc_law_fits.nd (Zde (pe_call (ok_law_ends T) (hr.mono (by decide)) (by rfl) T.g_law_ends T.F_law_ends.kp (bn_law_ends T) .nil pass0 (pa_cons (pv 3) (pa_cons (pv 1) (pa_cons (pv 5) pa_nil))))) (blkOk_by (N := ["_law_parts","_law_line_here","_law_places","_law_part","_law_more","_law_at","_law_end"]) (sc := defScope Zdz) (by decide +kernel)) (fun _ _ _ _ _ => pg_name (i := 6) sc_law_fits.nd rfl (Or.inl rfl)) (fun _ _ _ _ _ => (pts_one (pt_cmpR (r := rIn K true) op_notIn_seq (pv 6) (pv 4) rfl))) (fun _ _ _ _ _ => (pv 6))))))) (pss_one (ps_set (i := 2) sc_law_fits.nd rfl (dk rfl) (pv 4)))))) (pss_one (ps_ret (pe_and (pe_cmpR op_neS (pv 1) pe_str (nomark _)) (pe_one (pe_cmpR (r := rIn K false) op_in_seq (pe_callB Zeu (by rfl) T.n_len (by decide +kernel) (pa_cons (pv 1) pa_nil)) (pv 2) rfl)))))))),?_⟩
  have S : Sx P0 F0 H0 F0 H0 := Sx.refl0 hE
  unfold Zd2 at hm
  refine Zaf <| Zak <| Zcz <| Zaa <| rd_c <| Zac <| Zfg rfl ?_
  refine alL (K := K) (A := qI) (xs := ([0] : List Int)) S (.cons rfl .nil) (fun v1 F2 H3 c4 f5 => ?_)
  have S6 := S.call0 c4
  have f_parts := f_parts.up c4
  refine Zam <| Zaf <| Zdv <| Zjr <| rd_v rfl ?_
  refine Zgq S6 (f_parts) (fun p7 vs8 hq9 row10 => ?_)
  obtain ⟨t11,e12,hm⟩ := Zab hm
  refine Zds Zgd (Zcc row10) e12 (fun (s13 : (List Int)) σ H => ∃ (F : Hp) (x0 : V) (o3 : Option V) (o4 : Option V) (o5 : Option V) (o6 : Option V),σ = [some v_parts,some (V.str (a_line_here)),some x0,o3,o4,o5,o6] ∧ Sx P0 F2 H3 F H ∧ (qL qI).r K F x0 s13) ?_ ?_ ?_ ?_
  ·
   rintro _ _ _ ⟨_,_,_,_,_,_,_,S14,_⟩
   exact (Same.seq S14.sub (Same.seq S14.le hq9))
  ·
   have S15 := Sx.refl0 S6.sub
   exact ⟨F2,_,_,_,_,_,rfl,S15,f5⟩
  ·
   rintro x16 v17 s18 c22 σ19 H20 f21 ⟨F23,x25,o26,o27,o28,o29,rfl,S24,f30⟩ hm33
   have f_parts := f_parts.up S24
   unfold Zfl at hm33
   cases (show v17 = (V.str (x16)) from f21)
   refine Zam <| Zaf <| Zak <| Zcz <| Zac <| Zfg rfl ?_
   refine alL (K := K) (A := qI) (xs := ([] : List Int)) S24 .nil (fun v34 F35 H36 c37 f38 => ?_)
   have S39 := S24.call0 c37
   obtain ⟨f_parts,f30⟩ := up2 f_parts f30 c37
   refine Zam <| Zaf <| Zdv <| Zjr <| rd_v rfl ?_
   refine Zgq S39 (f30) (fun p40 vs41 hq42 row43 => ?_)
   obtain ⟨t44,e45,hm33⟩ := Zab hm33
   refine Zds Zgd (Zcc row43) e45 (fun (s46 : (List Int)) σ H => ∃ (F : Hp) (x0 : V) (o5 : Option V) (o6 : Option V),σ = [some v_parts,some (V.str (a_line_here)),some x25,some (V.str (x16)),some x0,o5,o6] ∧ Sx P0 F35 H36 F H ∧ (qL qI).r K F x0 s46) ?_ ?_ ?_ ?_
   ·
    rintro _ _ _ ⟨_,_,_,_,_,S47,_⟩
    exact (Same.seq S47.sub (Same.seq S47.le hq42))
   ·
    have S48 := Sx.refl0 S39.sub
    exact ⟨F35,_,_,_,rfl,S48,f38⟩
   ·
    rintro x49 v50 s51 c55 σ52 H53 f54 ⟨F56,x58,o59,o60,rfl,S57,f61⟩ hm64
    obtain ⟨f_parts,f30⟩ := up2 f_parts f30 S57
    unfold Zfm at hm64
    cases (show v50 = (V.int (x49)) from f54)
    obtain ⟨t65,e66,hm64⟩ := Zab hm64
    refine Zam <| Zak <| Zad <| rd_v rfl <| rd_lc <| Zjr <| Zah <| Zaa <| rd_v rfl <| Zaa <| rd_v rfl <| Zaa <| rd_v rfl <| Zac ?_
    refine ⟨F56,_,_,_,t65,rfl,S57.sub,e66,fun v70 F67 H68 c69 f71 => ?_⟩
    have S72 := S57.call0 c69
    obtain ⟨f_parts,f30,f61⟩ := up3 f_parts f30 f61 c69
    refine Zgq S72 (f71) (fun p73 vs74 hq75 row76 => ?_)
    obtain ⟨g77,hm64⟩ := Zae hm64
    obtain ⟨t78,e79,hm64⟩ := Zab hm64
    refine Zg1 (B := qI) Zgd (Zcc row76) e79 g77 (Pc := P0) (fun _ z => z.elim) S72.sub (fun (s80 : Unit) F H => True) ?_ ?_ ?_ ?_ ?_ ?_
    ·
     intro _ _ _ S81 _
     exact (Same.seq S81.sub (Same.seq S81.le hq75))
    ·
     trivial
    ·
     intros; trivial
    ·
     intros; trivial
    ·
     intro x82 v83 s84 o85 F86 H87 d88 acc89 f90 S91 w92 w93 n94 hm95 E96 N97 hN98 hE99
     obtain ⟨f_parts,f30,f61⟩ := up3 f_parts f30 f61 S91
     have S100 := Sx.refl0 S91.sub
     unfold Zfn at hm95
     cases (show v83 = (V.int (x82)) from f90)
     refine Zam <| rd_wp rfl <| Zag <| Zad <| rd_v rfl <| rd_v rfl ?_
     refine rd_niI (S100.l f61).r.q ?_
     refine rd_b ?_
     refine if_b hm95 (fun b101 hm95 => ?_) (fun b101 hm95 => ?_)
     ·
      cases hm95
      refine rd_v rfl ?_
      exact hN98 _ _ _ _ rfl S100 rfl trivial
     ·
      cases hm95
      exact hE99 _ _ rfl S100 trivial
    intro p102 us103 F104 H105 n106 c107 w108 w109 r110
    have z111 := S72.free0 n106
    have S112 := S72.call0 c107
    obtain ⟨f_parts,f30,f61⟩ := up3 f_parts f30 f61 c107
    have w113 : Ow P0 H36 _ _ _ _ := ⟨w109.fr,w109.at_,.inl z111⟩
    obtain ⟨F114,S115,le116,f117,_,eq118⟩ := fz S112 w113 z111 r110
    have f_parts := (qL qS).mono le116 f_parts
    have f30 := (qL qI).mono le116 f30
    have f61 := (qL qI).mono le116 f61
    obtain ⟨g119,hm64⟩ := Zae hm64
    refine rd_cat (S115.l f61) (S115.l f117) g119 ?_
    refine alL' S115 (fun v120 F121 H122 c123 f124 => ?_)
    have S125 := S115.call0 c123
    obtain ⟨f_parts,f30,f61⟩ := up3 f_parts f30 f61 c123
    cases hm64
    refine Zam ?_
    exact ⟨F121,_,_,_,rfl,S125,f124⟩
   ·
    rintro σ126 H127 ⟨F128,x130,o131,o132,rfl,S129,f133⟩
    have S134 := S39.call0 S129
    obtain ⟨f_parts,f30⟩ := up2 f_parts f30 S129
    cases hm33
    refine Zak <| rd_v rfl <| Zam ?_
    exact ⟨F128,_,_,_,_,_,rfl,S134,f133⟩
  ·
   rintro σ135 H136 ⟨F137,x139,o140,o141,o142,o143,rfl,S138,f144⟩
   have S145 := S6.call0 S138
   have f_parts := f_parts.up S138
   obtain ⟨t147,e148,hm⟩ := Zab hm
   refine Zai <| Zf4 <| Zad <| rd_v rfl <| rd_c <| Zc4 <| rd_b ?_
   refine andV_j (fun c H' => c = V.bl t147 ∧ ∃ F',Sx P0 F137 H136 F' H') ?_ ?_ ?_
   ·
    intro b149 Q150 q151
    have e148 := if_t e148 b149
    have S152 := Sx.refl0 S145.sub
    obtain ⟨g153,e148⟩ := Zae e148
    cases e148
    refine Zad <| Zay <| Zaa <| rd_v rfl <| Zac ?_
    refine Zem g153 ?_
    refine rd_v rfl ?_
    refine rd_inI (S152.l f144).r.q ?_
    exact q151 _ _ ⟨rfl,F137,S152⟩
   ·
    intro b149
    have e148 := if_f e148 b149
    cases e148
    have S154 := Sx.refl0 S145.sub
    exact ⟨rfl,F137,S154⟩
   rintro b158 H156 ⟨rfl,F155,c157⟩
   have S159 := S145.call0 c157
   obtain ⟨f_parts,f144⟩ := up2 f_parts f144 c157
   cases hm
   exact hQ _ _ _ S159 rfl
def sp_law_right (K : PySem.W.Frag) : Sp := fun vs H Q _ => ∃ (F : Hp) (p_pool_here : Addr) (a_pool_here : Int × Int) (v_drawn : V) (a_drawn : (List (List Str))) (v_shape_here : V) (a_shape_here : Shp) (r : (Bool × (Int × Int))),vs = [.ref p_pool_here,v_drawn,v_shape_here] ∧ Same F H ∧ Ow (fun a => a = p_pool_here) H F H p_pool_here (.lst [.int a_pool_here.1,.int a_pool_here.2]) ∧ (qL (qL qS)).r K F v_drawn a_drawn ∧ qSh.r K F v_shape_here a_shape_here ∧ Zec a_pool_here a_drawn a_shape_here = some r ∧ ∀ v F' H',Sx (fun a => a = p_pool_here) F H F' H' → Ow (fun a => a = p_pool_here) H F' H' p_pool_here (.lst [.int r.2.1,.int r.2.2]) → qB.r K F' v r.1 → Q v H'
theorem sc_law_right : FnScope ["_law_pool_here","_law_drawn","_law_shape_here","_law_text_here","_law_pattern","_law_parts","_law_line_here","_law_one"] ["_law_pool_here","_law_drawn","_law_shape_here"] (defScope Zbq) := ⟨rfl,rfl,rfl,by decide +kernel,rfl,by decide +kernel,by decide +kernel⟩
theorem bn_law_right (T : Tx K mg) : Binds K (fdOf K ("_law_right",none)) ["_law_pool_here","_law_drawn","_law_shape_here"] [] := FunD.bindsN T.F_law_right fun _ _ _ _ _ _ us hl => match us,hl with | [_,_,_],_ => rfl
theorem ok_law_right (T : Tx K mg) : FnOk P w K mg base CX0 15 (He.ga K "_law_right") (fdOf K ("_law_right",none)) ["_law_pool_here","_law_drawn","_law_shape_here"] (sp_law_right K) := by
 refine FunD.ok T.F_law_right sc_law_right (fun vs H0 Q E h => ?_) (fun cdv A outer s H0 vs Q E hr h => ?_)
 ·
  obtain ⟨_,_,_,_,_,_,_,_,rfl,_⟩ := h
  rfl
 ·
  obtain ⟨F0,p_pool_here,a_pool_here,v_drawn,a_drawn,v_shape_here,a_shape_here,r,rfl,hE,w_pool_here,f_drawn,f_shape_here,hm,hQ⟩ := h
  refine ⟨_,PSs.nox ((pss_cons (ps_set (i := 3) sc_law_right.nd rfl (dk rfl) (pe_call (ok_law_shown T 3) (hr.mono (by decide)) (by rfl) T.g_law_shown T.F_law_shown.kp (Zgg T) .nil pass0 (pa_cons (pv 2) (pa_cons (pv 1) pa_nil)))) (pss_cons (ps_set (i := 4) sc_law_right.nd rfl (dk rfl) (pe_call (Zf8 T) (hr.mono (by decide)) (by rfl) T.g_read_pattern T.F_read_pattern.kp (Zgf T) .nil pass0 (pa_cons (pv 3) pa_nil))) (pss_cons (ps_if (PW.pt (pw_or (pt_cmpR op_neS (pe_callTy (r := Zkp P w K mg base 10) (Zg6 (hr.mono (by decide))) (by rfl) T.n_str (by decide +kernel) (pa_cons (pv 4) pa_nil)) (pv 3) (nomark _)) (pw_or1 (pt_cmpR (r := rNeO K _ (Zc7 K) _) (op_neO (Ze8 T) (hr.mono (by decide)) (Zff T) pass0) (pv 4) (pe_call (ok_law_built T 3) (hr.mono (by decide)) (by rfl) T.g_law_built T.F_law_built.kp (Zgi T) .nil pass0 (pa_cons (pv 2) (pa_cons (pe_lc (own := [("_law_parts",5)]) (tt := tYes) rfl sc_law_right.nd (Zde (pv 1)) (blkOk_by (N := ["_law_pool_here","_law_drawn","_law_shape_here","_law_text_here","_law_pattern","_law_parts","_law_line_here","_law_one"]) (sc := defScope Zbq) (by decide +kernel)) (fun _ _ _ _ _ => pg_name (i := 5) sc_law_right.nd rfl (Or.inl rfl)) (fun _ _ _ _ _ => pts_nil) (fun _ _ _ _ _ => (pe_call (ok_law_form T) (hr.mono (by decide)) (by rfl) T.g_law_form T.F_law_form.kp (bn_law_form T) .nil pass0 (pa_cons (pv 5) pa_nil)))) pa_nil))) (nomark _))))) (pss_one (ps_ret pe_bl)) pss_nil) (pss_cons (ps_if (pt_cmpR (r := rNeD K) (op_neD hr.units) (pe_lc (own := [("_law_one",7)]) (tt := tYes) rfl sc_law_right.nd (Zde (Zbx (E := E0) (pv 4))) (blkOk_by (N := ["_law_pool_here","_law_drawn","_law_shape_here","_law_text_here","_law_pattern","_law_parts","_law_line_here","_law_one"]) (sc := defScope Zbq) (by decide +kernel)) (fun _ _ _ _ _ => pg_name (i := 7) sc_law_right.nd rfl (Or.inl rfl)) (fun _ _ _ _ _ => pts_nil) (fun _ _ _ _ _ => (pe_meth0 (pv 7) T.c_Form T.me_Form_parts (Zhe T) (hr.mono (by decide)) (Zho T) .nil pass0))) (pe_lc (own := [("_law_parts",5)]) (tt := tYes) rfl sc_law_right.nd (Zde (pv 1)) (blkOk_by (N := ["_law_pool_here","_law_drawn","_law_shape_here","_law_text_here","_law_pattern","_law_parts","_law_line_here","_law_one"]) (sc := defScope Zbq) (by decide +kernel)) (fun _ _ _ _ _ => pg_name (i := 5) sc_law_right.nd rfl (Or.inl rfl)) (fun _ _ _ _ _ => pts_nil) (fun _ _ _ _ _ => (Zi7 (K := K) rfl (by rfl) T.n_tuple (pv 5)))) (nomark _)) (pss_one (ps_ret pe_bl)) pss_nil) (pss_cons (ps_if (PW.pt (pw_or (pt_cmpR op_neB (pe_callB (r := rIsi K) call_isi (by rfl) T.n_isinstance (by decide +kernel) (pa_cons (pv 4) (pa_cons (pe_glob (v := V.ref (He.ga K "Form")) (by rfl) T.gc_Form rfl) pa_nil))) (pe_cmpR Zc5 (pe_callB (r := Zc9 K) Za3 (by rfl) T.n_len (by decide +kernel) (pa_cons (pv 1) pa_nil)) pe_int (nomark _)) (nomark _)) (pw_or1 (pt_cmpR op_neB (pe_callB (r := rIsi K) call_isi (by rfl) T.n_isinstance (by decide +kernel) (pa_cons (pv 4) (pa_cons (pe_glob (v := V.ref (He.ga K "Both")) (by rfl) T.gc_Both rfl) pa_nil))) (pe_cmpR (r := rEqD K) (op_eqD hr.units) (pe_ix (r := rIxL K) ix_list (pv 2) pe_int (fun _ _ => rfl)) pe_str (nomark _)) (nomark _))))) (pss_one (ps_ret pe_bl)) pss_nil) (pss_cons (ps_for PassesOwn.never rfl (Zde (pv 1)) (pg_name (i := 5) sc_law_right.nd rfl (dk rfl)) (pss_cons (ps_set (i := 6) sc_law_right.nd rfl (dk rfl) (pe_call (Zjv T) (hr.mono (by decide)) (by rfl) T.g_law_spoiled T.F_law_spoiled.kp (Zj0 T) .nil pass0 (pa_cons (pv 0) (pa_cons (pe_call (ok_law_line T) (hr.mono (by decide)) (by rfl) T.g_law_line T.F_law_line.kp (bn_law_line T) .nil pass0 (pa_cons (pv 0) (pa_cons (pv 5) pa_nil))) pa_nil)))) (pss_one (ps_if (pt_cmpR op_neB (pe_cmpR (r := rInW P w K mg base 5 false) (op_inW (hr.mono (by decide))) (pv 6) (pv 4) rfl) (pe_call (ok_law_holds T 3) (hr.mono (by decide)) (by rfl) T.g_law_holds T.F_law_holds.kp (Zgh T) .nil pass0 (pa_cons (pv 2) (pa_cons (pe_lc (own := [("_law_one",7)]) (tt := tYes) rfl sc_law_right.nd (Zde (pv 1)) (blkOk_by (N := ["_law_pool_here","_law_drawn","_law_shape_here","_law_text_here","_law_pattern","_law_parts","_law_line_here","_law_one"]) (sc := defScope Zbq) (by decide +kernel)) (fun _ _ _ _ _ => pg_name (i := 7) sc_law_right.nd rfl (Or.inl rfl)) (fun _ _ _ _ _ => pts_nil) (fun _ _ _ _ _ => (pe_call (ok_law_fits T) (hr.mono (by decide)) (by rfl) T.g_law_fits T.F_law_fits.kp (bn_law_fits T) .nil pass0 (pa_cons (pv 7) (pa_cons (pv 6) pa_nil))))) pa_nil))) (nomark _)) (pss_one (ps_ret pe_bl)) pss_nil)))) (pss_one (ps_ret (pe_and (pe_cmpR op_eqB (pe_callB (r := rIsi K) call_isi (by rfl) T.n_isinstance (by decide +kernel) (pa_cons (pv 4) (pa_cons (pe_glob (v := V.ref (He.ga K "Either")) (by rfl) T.gc_Either rfl) pa_nil))) (pe_cmpR (r := rEqD K) (op_eqD hr.units) (pe_ix (r := rIxL K) ix_list (pv 2) pe_int (fun _ _ => rfl)) pe_str (nomark _)) (nomark _)) (pe_one (pe_cmpR (r := rEqO K _ (Zc7 K) _) (op_eqO (Ze8 T) (hr.mono (by decide)) (Zff T) pass0) (pe_call (Zf8 T) (hr.mono (by decide)) (by rfl) T.g_read_pattern T.F_read_pattern.kp (Zgf T) .nil pass0 (pa_cons (pv 3) pa_nil)) (pv 4) (nomark _))))))))))))),?_⟩
  have S : Sx (fun a => a = p_pool_here) F0 H0 F0 H0 := Sx.refl hE (Zjy w_pool_here)
  unfold Zec at hm
  obtain ⟨t1,e2,hm⟩ := Zab hm
  refine Zaf <| Zak <| Zah <| Zaa <| rd_v rfl <| Zaa <| rd_v rfl <| Zac ?_
  refine ⟨F0,_,_,_,_,t1,rfl,S.sub,f_shape_here,f_drawn,e2,fun v6 F3 H4 c5 f7 => ?_⟩
  have S8 := S.call0 c5
  obtain ⟨f_drawn,f_shape_here⟩ := up2 f_drawn f_shape_here c5
  have w_pool_here := w_pool_here.call0 c5
  cases (show v6 = (V.str (t1)) from f7)
  obtain ⟨t9,e10,hm⟩ := Zab hm
  refine Zam <| Zaf <| Zak <| Zah <| Zaa <| rd_v rfl <| Zac ?_
  refine ⟨F3,_,t9,rfl,S8.sub,e10,fun v14 F11 H12 c13 f15 => ?_⟩
  have S16 := S8.call0 c13
  obtain ⟨f_drawn,f_shape_here⟩ := up2 f_drawn f_shape_here c13
  have w_pool_here := w_pool_here.call0 c13
  refine Zam <| Zaf <| Zal <| Zkm <| Zag <| Zad <| Zay <| Zaa <| rd_v rfl <| Zac ?_
  refine VM.strW (vm_str T 3) S16 f15 ?_
  obtain ⟨t17,e18,hm⟩ := Zab hm
  refine ⟨F11,_,_,t17,rfl,S16.sub,f15,rfl,e18,fun v22 F19 H20 c21 f23 => ?_⟩
  have S24 := S16.call0 c21
  obtain ⟨f_drawn,f_shape_here,f15⟩ := up3 f_drawn f_shape_here f15 c21
  have w_pool_here := w_pool_here.call0 c21
  cases (show v22 = (V.str (t17)) from f23)
  obtain ⟨t95,e96,hm⟩ := Zab hm
  refine Zi3 ?_
  refine rd_v rfl <| Zc4 <| rd_b ?_
  refine or_j (fun c H' => c = t95 ∧ ∃ F',Sx P0 F19 H20 F' H') ?_ ?_ ?_
  ·
   intro b97 Q98 q99
   have e96 := if_f e96 b97
   have S100 := Sx.refl0 S24.sub
   refine Zag <| Zad <| rd_v rfl <| Zah <| Zaa <| rd_v rfl <| Zaa <| rd_lc <| Zjr <| rd_v rfl ?_
   refine Zgq S100 (f_drawn) (fun p101 vs102 hq103 row104 => ?_)
   obtain ⟨g105,e96⟩ := Zae e96
   obtain ⟨t106,e107,e96⟩ := Zab e96
   refine Zg1 (B := qForm) Zgd (Zcc row104) e107 g105 (Pc := P0) (fun _ z => z.elim) S100.sub (fun (s108 : Unit) F H => True) ?_ ?_ ?_ ?_ ?_ ?_
   ·
    intro _ _ _ S109 _
    exact (Same.seq S109.sub (Same.seq S109.le hq103))
   ·
    trivial
   ·
    intros; trivial
   ·
    intros; trivial
   ·
    intro x110 v111 s112 o113 F114 H115 d116 acc117 f118 S119 w120 w121 n122 hm123 E124 N125 hN126 hE127
    obtain ⟨f_drawn,f_shape_here,f15⟩ := up3 f_drawn f_shape_here f15 S119
    have w_pool_here := w_pool_here.call0 S119
    have S128 := Sx.refl0 S119.sub
    unfold Zdf at hm123
    have f118 := f118.up S119
    obtain ⟨t129,e130,hm123⟩ := Zab hm123
    refine Zam <| rd_wp rfl <| Zj2 <| if_tt <| Zah <| Zaa <| rd_v rfl <| Zac ?_
    refine ⟨F114,_,_,t129,rfl,S128.sub,f118,e130,fun v134 F131 H132 c133 f135 => ?_⟩
    have S136 := S128.call0 c133
    obtain ⟨f_drawn,f_shape_here,f15,f118⟩ := up4 f_drawn f_shape_here f15 f118 c133
    have w_pool_here := w_pool_here.call0 c133
    cases hm123
    exact hN126 _ _ _ _ rfl S136 f135 trivial
   intro p137 us138 F139 H140 n141 c142 w143 w144 r145
   have z146 := S100.free0 n141
   have ne147 : p_pool_here ≠ p137 := w_pool_here.ne n141
   have S148 := S100.call0 c142
   obtain ⟨f_drawn,f_shape_here,f15⟩ := up3 f_drawn f_shape_here f15 c142
   have w_pool_here := w_pool_here.call0 c142
   have w149 : Ow P0 H20 _ _ _ _ := ⟨w144.fr,w144.at_,.inl z146⟩
   obtain ⟨F150,S151,le152,f153,_,eq154⟩ := fz S148 w149 z146 r145
   have f_drawn := (qL (qL qS)).mono le152 f_drawn
   have f_shape_here := qSh.mono le152 f_shape_here
   have f15 := qPat.mono le152 f15
   have w_pool_here := w_pool_here.fzO ne147 eq154
   obtain ⟨t155,e156,e96⟩ := Zab e96
   refine Zac ?_
   refine ⟨F150,_,_,_,_,t155,rfl,S151.sub,f_shape_here,f153,e156,fun v160 F157 H158 c159 f161 => ?_⟩
   have S162 := S151.call0 c159
   obtain ⟨f_drawn,f_shape_here,f15⟩ := up3 f_drawn f_shape_here f15 c159
   have w_pool_here := w_pool_here.call0 c159
   obtain ⟨t163,e164,e96⟩ := Zab e96
   refine pat_ne T.pe T.pn S162 f15 f161 ?_
   refine ⟨F157,_,_,_,_,t163,rfl,S162.sub,f15,f161,e164,fun v168 F165 H166 c167 f169 => ?_⟩
   have S170 := S162.call0 c167
   obtain ⟨f_drawn,f_shape_here,f15⟩ := up3 f_drawn f_shape_here f15 c167
   have w_pool_here := w_pool_here.call0 c167
   cases (show v168 = (V.bl (t163)) from f169)
   cases e96
   refine rd_neK ?_
   refine rd_b ?_
   exact q99 _ _ ⟨rfl,F165,S170⟩
  ·
   intro b97
   have e96 := if_t e96 b97
   cases e96
   have S171 := Sx.refl0 S24.sub
   exact ⟨rfl,F19,S171⟩
  rintro b175 H173 ⟨rfl,F172,c174⟩
  have S176 := S24.call0 c174
  obtain ⟨f_drawn,f_shape_here,f15⟩ := up3 f_drawn f_shape_here f15 c174
  have w_pool_here := w_pool_here.call0 c174
  refine if_b hm (fun b177 hm => ?_) (fun b177 hm => ?_)
  ·
   cases hm
   refine Zai <| rd_c ?_
   exact hQ _ _ _ S176 w_pool_here rfl
  ·
   refine Zaj <| Zaf <| Zal <| Zag <| Zad <| rd_lc <| Zjr ?_
   refine Zbe ?_
   refine rd_v rfl ?_
   refine VM.call (Zdx T 3) (hr.mono (by decide)) S176 f15 ?_
   obtain ⟨t178,e179,hm⟩ := Zab hm
   refine Zac ?_
   refine ⟨F172,_,_,t178,rfl,S176.sub,f15,rfl,e179,fun v183 F180 H181 c182 f184 => ?_⟩
   have S185 := S176.call0 c182
   obtain ⟨f_drawn,f_shape_here,f15⟩ := up3 f_drawn f_shape_here f15 c182
   have w_pool_here := w_pool_here.call0 c182
   refine Zgq S185 (f184) (fun p186 vs187 hq188 row189 => ?_)
   obtain ⟨g190,hm⟩ := Zae hm
   obtain ⟨t191,e192,hm⟩ := Zab hm
   refine Zg1 (B := (qT qS)) Zgd (Zcc row189) e192 g190 (Pc := P0) (fun _ z => z.elim) S185.sub (fun (s193 : Unit) F H => True) ?_ ?_ ?_ ?_ ?_ ?_
   ·
    intro _ _ _ S194 _
    exact (Same.seq S194.sub (Same.seq S194.le hq188))
   ·
    trivial
   ·
    intros; trivial
   ·
    intros; trivial
   ·
    intro x195 v196 s197 o198 F199 H200 d201 acc202 f203 S204 w205 w206 n207 hm208 E209 N210 hN211 hE212
    obtain ⟨f_drawn,f_shape_here,f15⟩ := up3 f_drawn f_shape_here f15 S204
    have w_pool_here := w_pool_here.call0 S204
    have S213 := Sx.refl0 S204.sub
    unfold Zes at hm208
    have f203 := f203.up S204
    refine Zam <| rd_wp rfl <| Zj2 <| if_tt <| rd_meth <| rd_v rfl ?_
    refine Zhi S213 f203 ?_
    obtain ⟨t214,e215,hm208⟩ := Zab hm208
    refine Zac ?_
    refine ⟨F199,_,_,t214,rfl,S213.sub,f203,e215,fun v219 F216 H217 c218 f220 => ?_⟩
    have S221 := S213.call0 c218
    obtain ⟨f_drawn,f_shape_here,f15,f203⟩ := up4 f_drawn f_shape_here f15 f203 c218
    have w_pool_here := w_pool_here.call0 c218
    cases hm208
    exact hN211 _ _ _ _ rfl S221 f220 trivial
   intro p222 us223 F224 H225 n226 c227 w228 w229 r230
   have z231 := S185.free0 n226
   have ne232 : p_pool_here ≠ p222 := w_pool_here.ne n226
   have S233 := S185.call0 c227
   obtain ⟨f_drawn,f_shape_here,f15⟩ := up3 f_drawn f_shape_here f15 c227
   have w_pool_here := w_pool_here.call0 c227
   have w234 : Ow (fun a => a = p_pool_here) H0 _ _ _ _ := ⟨w229.fr,w229.at_,.inl z231⟩
   obtain ⟨F235,S236,le237,f238,_,eq239⟩ := fz S233 w234 z231 r230
   have f_drawn := (qL (qL qS)).mono le237 f_drawn
   have f_shape_here := qSh.mono le237 f_shape_here
   have f15 := qPat.mono le237 f15
   have w_pool_here := w_pool_here.fzO ne232 eq239
   refine rd_lc <| Zjr <| rd_v rfl ?_
   refine Zgq S236 (f_drawn) (fun p240 vs241 hq242 row243 => ?_)
   obtain ⟨g244,hm⟩ := Zae hm
   obtain ⟨t245,e246,hm⟩ := Zab hm
   refine Zg1 (B := (qT qS)) Zgd (Zcc row243) e246 g244 (Pc := P0) (fun _ z => z.elim) S236.sub (fun (s247 : Unit) F H => True) ?_ ?_ ?_ ?_ ?_ ?_
   ·
    intro _ _ _ S248 _
    exact (Same.seq S248.sub (Same.seq S248.le hq242))
   ·
    trivial
   ·
    intros; trivial
   ·
    intros; trivial
   ·
    intro x249 v250 s251 o252 F253 H254 d255 acc256 f257 S258 w259 w260 n261 hm262 E263 N264 hN265 hE266
    obtain ⟨f_drawn,f_shape_here,f15,f238⟩ := up4 f_drawn f_shape_here f15 f238 S258
    have w_pool_here := w_pool_here.call0 S258
    have S267 := Sx.refl0 S258.sub
    unfold Zer at hm262
    have f257 := f257.up S258
    refine Zam <| rd_wp rfl <| Zj2 <| if_tt ?_
    refine rd_thn ?_
    refine rd_v rfl ?_
    refine rd_tuple (S267.l f257).r ?_
    refine alT' S267 (fun v268 F269 H270 c271 f272 => ?_)
    have S273 := S267.call0 c271
    obtain ⟨f_drawn,f_shape_here,f15,f257,f238⟩ := up5 f_drawn f_shape_here f15 f257 f238 c271
    have w_pool_here := w_pool_here.call0 c271
    cases hm262
    exact hN265 _ _ _ _ rfl S273 f272 trivial
   intro p274 us275 F276 H277 n278 c279 w280 w281 r282
   have z283 := S236.free0 n278
   have ne284 : p_pool_here ≠ p274 := w_pool_here.ne n278
   have S285 := S236.call0 c279
   obtain ⟨f_drawn,f_shape_here,f15,f238⟩ := up4 f_drawn f_shape_here f15 f238 c279
   have w_pool_here := w_pool_here.call0 c279
   have w286 : Ow (fun a => a = p_pool_here) H0 _ _ _ _ := ⟨w281.fr,w281.at_,.inl z283⟩
   obtain ⟨F287,S288,le289,f290,_,eq291⟩ := fz S285 w286 z283 r282
   have f_drawn := (qL (qL qS)).mono le289 f_drawn
   have f_shape_here := qSh.mono le289 f_shape_here
   have f15 := qPat.mono le289 f15
   have f238 := (qL (qT qS)).mono le289 f238
   have w_pool_here := w_pool_here.fzO ne284 eq291
   obtain ⟨g292,hm⟩ := Zae hm
   obtain ⟨g293,hm⟩ := Zae hm
   refine rd_neD (D := (dL (dT dS))) (S288.d (dL (dT dS)) f238) (S288.d (dL (dT dS)) f290) g292 g293 ?_
   refine rd_b ?_
   refine if_b hm (fun b294 hm => ?_) (fun b294 hm => ?_)
   ·
    cases hm
    refine Zai <| rd_c ?_
    exact hQ _ _ _ S288 w_pool_here rfl
   ·
    obtain ⟨t296,e297,hm⟩ := Zab hm
    refine Zaj <| Zaf <| Zal <| Zkm <| Zag <| Zad <| Zay <| Zaa <| rd_v rfl <| Zaa <| rd_c <| Zac ?_
    refine Zi5 T.pf T.pe (.inl rfl) S288 f15 ?_
    refine Zad <| Zay <| Zaa <| rd_v rfl <| Zac ?_
    refine Zbi (S288.l f_drawn).r.q ?_
    refine rd_c <| Zax <| rd_B0 <| rd_b ?_
    refine or_j (fun c H' => c = t296 ∧ ∃ F',Sx P0 F287 H277 F' H') ?_ ?_ ?_
    ·
     intro b298 Q299 q300
     have e297 := if_f e297 b298
     have S301 := Sx.refl0 S288.sub
     obtain ⟨g302,e297⟩ := Zae e297
     cases e297
     refine Zag <| Zad <| Zay <| Zaa <| rd_v rfl <| Zaa <| rd_c <| Zac ?_
     refine Zi5 T.pf T.pe (.inr (.inl rfl)) S301 f15 ?_
     refine Zad <| Zad <| rd_v rfl <| rd_c ?_
     refine rd_shEq (z := ("&" : Str)) S301 f_shape_here g302 (by decide +kernel) ?_
     refine rd_B0 <| rd_b ?_
     exact q300 _ _ ⟨rfl,F287,S301⟩
    ·
     intro b298
     have e297 := if_t e297 b298
     cases e297
     have S303 := Sx.refl0 S288.sub
     exact ⟨rfl,F287,S303⟩
    rintro b307 H305 ⟨rfl,F304,c306⟩
    have S308 := S288.call0 c306
    obtain ⟨f_drawn,f_shape_here,f15⟩ := up3 f_drawn f_shape_here f15 c306
    have w_pool_here := w_pool_here.call0 c306
    refine if_b hm (fun b309 hm => ?_) (fun b309 hm => ?_)
    ·
     cases hm
     refine Zai <| rd_c ?_
     exact hQ _ _ _ S308 w_pool_here rfl
    ·
     refine Zaj <| Zaf <| Zdv <| Zjr <| rd_v rfl ?_
     refine Zgq S308 (f_drawn) (fun p310 vs311 hq312 row313 => ?_)
     obtain ⟨t314,e315,hm⟩ := Zab hm
     refine rd_forC Zgd (Zcc row313) e315 (fun (s316 : (Int × Int)) σ H => ∃ (F : Hp) (o5 : Option V) (o6 : Option V) (o7 : Option V),σ = [some (V.ref p_pool_here),some v_drawn,some v_shape_here,some (V.str (t1)),some v14,o5,o6,o7] ∧ Sx (fun a => a = p_pool_here) F304 H305 F H ∧ Ow (fun a => a = p_pool_here) H305 F H p_pool_here (.lst [V.int s316.1,V.int s316.2])) ?_ ?_ ?_ ?_
     ·
      rintro _ _ _ ⟨_,_,_,_,_,S317,_⟩
      exact (Same.seq S317.sub (Same.seq S317.le hq312))
     ·
      have S318 : Sx (fun a => a = p_pool_here) _ _ _ _ := Sx.refl S308.sub (fun a z => by rw [z,w_pool_here.at_]; exact (fun h => nomatch h))
      have w319 : Ow (fun a => a = p_pool_here) H305 _ _ _ _ := ⟨w_pool_here.fr,w_pool_here.at_,.inr (rfl)⟩
      exact ⟨F304,_,_,_,rfl,S318,w319⟩
     ·
      rintro x320 v321 s322 c326 σ323 H324 f325 ⟨F327,o329,o330,o331,rfl,S328,w332⟩ hm335 hbk333 hrt334
      obtain ⟨f_drawn,f_shape_here,f15⟩ := up3 f_drawn f_shape_here f15 S328
      unfold Zep at hm335
      have f325 := f325.up S328
      obtain ⟨t336,e337,hm335⟩ := Zab hm335
      refine Zam <| Zaf <| Zak <| Zah <| Zaa <| rd_v rfl <| Zaa <| Zah <| Zaa <| rd_v rfl <| Zaa <| rd_v rfl <| Zac ?_
      refine ⟨F327,_,_,_,_,t336,rfl,S328.sub,w332.arg,f325,e337,fun v341 F338 H339 c340 w343 f342 => ?_⟩
      have S344 := S328.call1 c340 w332
      obtain ⟨f_drawn,f_shape_here,f15,f325⟩ := up4 f_drawn f_shape_here f15 f325 c340
      have w345 := w332.back w343
      cases (show v341 = (V.str (t336.1)) from f342)
      obtain ⟨t346,e347,hm335⟩ := Zab hm335
      refine Zac ?_
      refine ⟨F338,_,_,_,t346,rfl,S344.sub,w345.arg,e347,fun v351 F348 H349 c350 w353 f352 => ?_⟩
      have S354 := S344.call1 c350 w345
      obtain ⟨f_drawn,f_shape_here,f15,f325⟩ := up4 f_drawn f_shape_here f15 f325 c350
      have w355 := w345.back w353
      cases (show v351 = (V.str (t346.1)) from f352)
      refine Zam <| Zal <| Zag <| Zad <| Zad <| rd_v rfl <| rd_v rfl ?_
      refine VM.inW (vm_contains T) S354 f15 ?_
      obtain ⟨t356,e357,hm335⟩ := Zab hm335
      refine ⟨F348,_,_,_,t356,rfl,S354.sub,f15,rfl,e357,fun v361 F358 H359 c360 f362 => ?_⟩
      have S363 := S354.call0 c360
      obtain ⟨f_drawn,f_shape_here,f15,f325⟩ := up4 f_drawn f_shape_here f15 f325 c360
      have w355 := w355.call0 c360
      cases (show v361 = (V.bl (t356)) from f362)
      refine rd_inWf ?_
      refine Zah <| Zaa <| rd_v rfl <| Zaa <| rd_lc <| Zjr <| rd_v rfl ?_
      refine Zgq S363 (f_drawn) (fun p364 vs365 hq366 row367 => ?_)
      obtain ⟨g368,hm335⟩ := Zae hm335
      obtain ⟨t369,e370,hm335⟩ := Zab hm335
      refine Zg1 (B := qB) Zgd (Zcc row367) e370 g368 (Pc := P0) (fun _ z => z.elim) S363.sub (fun (s371 : Unit) F H => True) ?_ ?_ ?_ ?_ ?_ ?_
      ·
       intro _ _ _ S372 _
       exact (Same.seq S372.sub (Same.seq S372.le hq366))
      ·
       trivial
      ·
       intros; trivial
      ·
       intros; trivial
      ·
       intro x373 v374 s375 o376 F377 H378 d379 acc380 f381 S382 w383 w384 n385 hm386 E387 N388 hN389 hE390
       obtain ⟨f_drawn,f_shape_here,f15,f325⟩ := up4 f_drawn f_shape_here f15 f325 S382
       have w355 := w355.call0 S382
       have S391 := Sx.refl0 S382.sub
       unfold Zeq at hm386
       have f381 := f381.up S382
       obtain ⟨t392,e393,hm386⟩ := Zab hm386
       refine Zam <| rd_wp rfl <| Zj2 <| if_tt <| Zah <| Zaa <| rd_v rfl <| Zaa <| rd_v rfl <| Zac ?_
       refine ⟨F377,_,_,_,t392,rfl,S391.sub,f381,e393,fun v397 F394 H395 c396 f398 => ?_⟩
       have S399 := S391.call0 c396
       obtain ⟨f_drawn,f_shape_here,f15,f381,f325⟩ := up5 f_drawn f_shape_here f15 f381 f325 c396
       have w355 := w355.call0 c396
       cases (show v397 = (V.bl (t392)) from f398)
       cases hm386
       exact hN389 _ _ _ _ rfl S399 rfl trivial
      intro p400 us401 F402 H403 n404 c405 w406 w407 r408
      have z409 := S363.free0 n404
      have ne410 : p_pool_here ≠ p400 := w355.ne n404
      have S411 := S363.call0 c405
      obtain ⟨f_drawn,f_shape_here,f15,f325⟩ := up4 f_drawn f_shape_here f15 f325 c405
      have w355 := w355.call0 c405
      have w412 : Ow (fun a => a = p_pool_here) H305 _ _ _ _ := ⟨w407.fr,w407.at_,.inl z409⟩
      obtain ⟨F413,S414,le415,f416,_,eq417⟩ := fz S411 w412 z409 r408
      have f_drawn := (qL (qL qS)).mono le415 f_drawn
      have f_shape_here := qSh.mono le415 f_shape_here
      have f15 := qPat.mono le415 f15
      have f325 := (qL qS).mono le415 f325
      have w355 := w355.fzO ne410 eq417
      obtain ⟨t418,e419,hm335⟩ := Zab hm335
      refine Zac ?_
      refine ⟨F413,_,_,_,_,t418,rfl,S414.sub,f_shape_here,f416,e419,fun v423 F420 H421 c422 f424 => ?_⟩
      have S425 := S414.call0 c422
      obtain ⟨f_drawn,f_shape_here,f15,f325⟩ := up4 f_drawn f_shape_here f15 f325 c422
      have w355 := w355.call0 c422
      cases (show v423 = (V.bl (t418)) from f424)
      refine rd_B0 <| rd_b ?_
      refine if_b hm335 (fun b426 hm335 => ?_) (fun b426 hm335 => ?_)
      ·
       cases hm335
       have e427 := hrt334 _ rfl
       subst e427
       have hm := aft_rt hm
       have S428 := S308.call1 S425 w_pool_here
       have w429 : Ow (fun a => a = p_pool_here) H0 _ _ _ _ := ⟨w355.fr,w355.at_,w_pool_here.mine⟩
       cases hm
       refine Zai <| rd_c ?_
       exact hQ _ _ _ S428 w429 rfl
      ·
       cases hm335
       refine Zaj ?_
       exact ⟨_,rfl,⟨F420,_,_,_,rfl,S425,w355⟩⟩
     ·
      rintro s432 σ430 H431 e433 ⟨F434,o436,o437,o438,rfl,S435,w439⟩
      subst e433
      have hm := aft_nx hm
      have S440 := S308.call1 S435 w_pool_here
      obtain ⟨f_drawn,f_shape_here,f15⟩ := up3 f_drawn f_shape_here f15 S435
      have w441 : Ow (fun a => a = p_pool_here) H0 _ _ _ _ := ⟨w439.fr,w439.at_,w_pool_here.mine⟩
      obtain ⟨g442,hm⟩ := Zae hm
      obtain ⟨t459,e460,hm⟩ := Zab hm
      refine Zai <| Zf4 <| Zad <| Zay <| Zaa <| rd_v rfl <| Zaa <| rd_c <| Zac ?_
      refine Zi5 T.pf T.pe (.inr (.inr rfl)) S440 f15 ?_
      refine Zad <| Zad <| rd_v rfl <| rd_c ?_
      refine rd_shEq (z := ("|" : Str)) S440 f_shape_here g442 (by decide +kernel) ?_
      refine rd_B0 <| rd_b ?_
      refine andV_j (fun c H' => c = V.bl t459 ∧ ∃ F',Sx P0 F434 H431 F' H') ?_ ?_ ?_
      ·
       intro b461 Q462 q463
       have e460 := if_t e460 b461
       have S464 := Sx.refl0 S440.sub
       obtain ⟨t465,e466,e460⟩ := Zab e460
       refine Zad <| Zah <| Zaa <| rd_v rfl <| Zac ?_
       refine ⟨F434,_,t465,rfl,S464.sub,e466,fun v470 F467 H468 c469 f471 => ?_⟩
       have S472 := S464.call0 c469
       obtain ⟨f_drawn,f_shape_here,f15⟩ := up3 f_drawn f_shape_here f15 c469
       have w441 := w441.call0 c469
       obtain ⟨t473,e474,e460⟩ := Zab e460
       refine rd_v rfl ?_
       refine pat_eq T.pe S472 f471 f15 ?_
       refine ⟨F467,_,_,_,_,t473,rfl,S472.sub,f471,f15,e474,fun v478 F475 H476 c477 f479 => ?_⟩
       have S480 := S472.call0 c477
       obtain ⟨f_drawn,f_shape_here,f15⟩ := up3 f_drawn f_shape_here f15 c477
       have w441 := w441.call0 c477
       cases (show v478 = (V.bl (t473)) from f479)
       cases e460
       exact q463 _ _ ⟨rfl,F475,S480⟩
      ·
       intro b461
       have e460 := if_f e460 b461
       cases e460
       have S481 := Sx.refl0 S440.sub
       exact ⟨rfl,F434,S481⟩
      rintro b485 H483 ⟨rfl,F482,c484⟩
      have S486 := S440.call0 c484
      obtain ⟨f_drawn,f_shape_here,f15⟩ := up3 f_drawn f_shape_here f15 c484
      have w441 := w441.call0 c484
      cases hm
      exact hQ _ _ _ S486 w441 rfl
def sp_law_shape (K : PySem.W.Frag) : Sp := fun vs H Q _ => ∃ (F : Hp) (p_pool_here : Addr) (a_pool_here : Int × Int) (a_many : Int) (r : (Shp × (Int × Int))),vs = [.ref p_pool_here,(V.int (a_many))] ∧ Same F H ∧ Ow (fun a => a = p_pool_here) H F H p_pool_here (.lst [.int a_pool_here.1,.int a_pool_here.2]) ∧ Zeb a_pool_here a_many = some r ∧ ∀ v F' H',Sx (fun a => a = p_pool_here) F H F' H' → Ow (fun a => a = p_pool_here) H F' H' p_pool_here (.lst [.int r.2.1,.int r.2.2]) → qSh.r K F' v r.1 → Q v H'
theorem sc_law_shape : FnScope ["_law_pool_here","_law_many","_law_rows","_law_at","_law_k"] ["_law_pool_here","_law_many"] (defScope Zc8) := ⟨rfl,rfl,rfl,by decide +kernel,rfl,by decide +kernel,by decide +kernel⟩
theorem bn_law_shape (T : Tx K mg) : Binds K (fdOf K ("_law_shape",none)) ["_law_pool_here","_law_many"] [] := FunD.bindsN T.F_law_shape fun _ _ _ _ _ _ us hl => match us,hl with | [_,_],_ => rfl
theorem ok_law_shape (T : Tx K mg) : FnOk P w K mg base CX0 2 (He.ga K "_law_shape") (fdOf K ("_law_shape",none)) ["_law_pool_here","_law_many"] (sp_law_shape K) := by
 refine FunD.ok T.F_law_shape sc_law_shape (fun vs H0 Q E h => ?_) (fun cdv A outer s H0 vs Q E hr h => ?_)
 ·
  obtain ⟨_,_,_,_,_,rfl,_⟩ := h
  rfl
 ·
  obtain ⟨F0,p_pool_here,a_pool_here,a_many,r,rfl,hE,w_pool_here,hm,hQ⟩ := h
  refine ⟨_,PSs.nox ((pss_cons (ps_setLc (i := 2) (own := [("_law_k",4)]) (tt := tYes) rfl sc_law_shape.nd rfl rfl (sw_true rfl rfl rfl (by decide +kernel)) (pi_range1 (by rfl) T.n_range (pa_cons (pv 1) pa_nil)) (blkOk_by (N := ["_law_pool_here","_law_many","_law_rows","_law_at","_law_k"]) (sc := defScope Zc8) (by decide +kernel)) (fun _ _ _ _ _ => pg_name (i := 4) sc_law_shape.nd rfl (Or.inl rfl)) (fun _ _ _ _ _ => pts_nil) (fun _ _ _ _ _ => (pe_lst (pa_cons (pv 4) pa_nil)))) (pss_cons (ps_while PassesOwn.never (pt_cmpR op_gt (pe_callB (r := Zc9 K) Za3 (by rfl) T.n_len (by decide +kernel) (pa_cons (pv 2) pa_nil)) pe_int (nomark _)) (pss_cons (ps_set (i := 3) sc_law_shape.nd rfl (dk rfl) (pe_call (Zar T) (hr.mono (by decide)) (by rfl) T.g_law_take T.F_law_take.kp (Zat T) .nil pass0 (pa_cons (pv 0) (pa_cons (pe_op op_sub (pe_callB (r := Zc9 K) Za3 (by rfl) T.n_len (by decide +kernel) (pa_cons (pv 2) pa_nil)) pe_int) pa_nil)))) (pss_one (ps_set (i := 2) sc_law_shape.nd rfl (dk rfl) (pe_op op_cat (pe_op op_cat (pe_slice (r := rSlL K) sl_list (pv 2) po_none (po_some (pv 3))) (pe_lst (pa_cons (pe_lst (pa_cons (pe_ix (r := rIxL K) ix_list (pe_lst (pa_cons pe_str (pa_cons pe_str pa_nil))) (pe_call (Zar T) (hr.mono (by decide)) (by rfl) T.g_law_take T.F_law_take.kp (Zat T) .nil pass0 (pa_cons (pv 0) (pa_cons pe_int pa_nil))) (fun _ _ => rfl)) (pa_cons (pe_ix (r := rIxL K) ix_list (pv 2) (pv 3) (fun _ _ => rfl)) (pa_cons (pe_ix (r := rIxL K) ix_list (pv 2) (pe_op op_add (pv 3) pe_int) (fun _ _ => rfl)) pa_nil)))) pa_nil))) (pe_slice (r := rSlL K) sl_list (pv 2) (po_some (pe_op op_add (pv 3) pe_int)) po_none)))))) (pss_one (ps_ret (pe_ix (r := rIxL K) ix_list (pv 2) pe_int (fun _ _ => rfl))))))),?_⟩
  have S : Sx (fun a => a = p_pool_here) F0 H0 F0 H0 := Sx.refl hE (Zjy w_pool_here)
  unfold Zeb at hm
  obtain ⟨g1,hm⟩ := Zae hm
  refine Zaf <| Zak <| rd_lc ?_
  refine Zi6 ?_
  refine Zaa <| rd_v rfl <| Zac ?_
  refine rd_r1 g1 ?_
  obtain ⟨g2,hm⟩ := Zae hm
  obtain ⟨t3,e4,hm⟩ := Zab hm
  refine Zg1 (B := qSh) Zg5 (Ziu (K := K) (F := F0)) e4 g2 (Pc := P0) (fun _ z => z.elim) S.sub (fun (s5 : Unit) F H => True) ?_ ?_ ?_ ?_ ?_ ?_
  ·
   intro _ _ _ _ _; trivial
  ·
   trivial
  ·
   intros; trivial
  ·
   intros; trivial
  ·
   intro x7 v8 s9 o10 F11 H12 d13 acc14 f15 S16 w17 w18 n19 hm20 E21 N22 hN23 hE24
   have w_pool_here := w_pool_here.call0 S16
   have S25 := Sx.refl0 S16.sub
   unfold Zgw at hm20
   cases (show v8 = (V.int (x7)) from f15)
   refine Zam <| rd_wp rfl <| Zj2 <| if_tt <| Zcz <| Zaa <| rd_v rfl <| Zac <| Zfg rfl ?_
   refine alL (K := K) (A := qI) (xs := ([x7] : List Int)) S25 (.cons rfl .nil) (fun v26 F27 H28 c29 f30 => ?_)
   have S31 := S25.call0 c29
   have w_pool_here := w_pool_here.call0 c29
   have f32 : qSh.r K F27 v26 (Shp.lf x7) := sh_of1 f30
   cases hm20
   exact hN23 _ _ _ _ rfl S31 f32 trivial
  intro p33 us34 F35 H36 n37 c38 w39 w40 r41
  have z42 := S.free0 n37
  have ne43 : p_pool_here ≠ p33 := w_pool_here.ne n37
  have S44 := S.call0 c38
  have w_pool_here := w_pool_here.call0 c38
  have w45 : Ow (fun a => a = p_pool_here) H0 _ _ _ _ := ⟨w40.fr,w40.at_,.inl z42⟩
  obtain ⟨F46,S47,le48,f49,_,eq50⟩ := fz S44 w45 z42 r41
  have w_pool_here := w_pool_here.fzO ne43 eq50
  obtain ⟨t51,e52,hm⟩ := Zab hm
  refine Zam <| Zaf ?_
  refine Zi2 e52 (fun (s53 : ((Int × Int) × (List Shp))) σ H => ∃ (F : Hp) (x1 : V) (o3 : Option V) (o4 : Option V),σ = [some (V.ref p_pool_here),some (V.int (a_many)),some x1,o3,o4] ∧ Sx (fun a => a = p_pool_here) F46 H36 F H ∧ (qL qSh).r K F x1 s53.2 ∧ Ow (fun a => a = p_pool_here) H36 F H p_pool_here (.lst [V.int s53.1.1,V.int s53.1.2])) ?_ ?_ ?_ ?_
  ·
   have S54 : Sx (fun a => a = p_pool_here) _ _ _ _ := Sx.refl S47.sub (fun a z => by rw [z,w_pool_here.at_]; exact (fun h => nomatch h))
   have w55 : Ow (fun a => a = p_pool_here) H36 _ _ _ _ := ⟨w_pool_here.fr,w_pool_here.at_,.inr (rfl)⟩
   exact ⟨F46,_,_,_,rfl,S54,f49,w55⟩
  ·
   rintro s56 b57 σ58 H59 T60 E61 ⟨F65,x67,o68,o69,rfl,S66,f70,w71⟩ hm64 hT62 hE63
   unfold Zeo at hm64
   refine Zag <| Zad <| Zay <| Zaa <| rd_v rfl <| Zac ?_
   refine Zbi (S66.l f70).r.q ?_
   refine rd_c <| Zax <| rd_b ?_
   refine if_j (fun b72 => ?_) (fun b72 => ?_)
   ·
    cases hm64; exact hT62 _ _ b72 ⟨F65,_,_,_,rfl,S66,f70,w71⟩
   ·
    cases hm64; exact hE63 _ _ b72 ⟨F65,_,_,_,rfl,S66,f70,w71⟩
  ·
   rintro s73 s74 σ75 H76 ⟨F80,x82,o83,o84,rfl,S81,f85,w86⟩ hm77
   unfold Zen at hm77
   obtain ⟨t87,e88,hm77⟩ := Zab hm77
   refine Zaf <| Zak <| Zah <| Zaa <| rd_v rfl <| Zaa <| Zad <| Zay <| Zaa <| rd_v rfl <| Zac ?_
   refine Zbi (S81.l f85).r.q ?_
   refine rd_c <| Zax <| Zac ?_
   refine ⟨F80,_,_,_,t87,rfl,S81.sub,w86.arg,e88,fun v92 F89 H90 c91 w94 f93 => ?_⟩
   have S95 := S81.call1 c91 w86
   have f85 := f85.up c91
   have w96 := w86.back w94
   cases (show v92 = (V.int (t87.1)) from f93)
   refine Zam <| Zak <| Zad <| Zad ?_
   refine Zel ?_
   refine rd_v rfl ?_
   refine Zf3 ?_
   refine Zdr ?_
   refine rd_v rfl ?_
   refine rd_i ?_
   refine Zj3 (S95.l f85).r ?_
   refine alL' S95 (fun v97 F98 H99 c100 f101 => ?_)
   have S102 := S95.call0 c100
   have f85 := f85.up c100
   have w96 := w96.call0 c100
   refine Zcz <| Zaa <| Zcz <| Zaa <| Zad <| Zcz <| Zaa <| rd_c <| Zaa <| rd_c <| Zac <| Zfg rfl ?_
   refine alL (K := K) (A := qS) (xs := [("&" : Str),("|" : Str)]) S102 (.cons rfl (.cons rfl .nil)) (fun v103 F104 H105 c106 f107 => ?_)
   have S108 := S102.call0 c106
   obtain ⟨f85,f101⟩ := up2 f85 f101 c106
   have w96 := w96.call0 c106
   obtain ⟨t109,e110,hm77⟩ := Zab hm77
   refine Zah <| Zaa <| rd_v rfl <| Zaa <| rd_c <| Zac ?_
   refine ⟨F104,_,_,_,t109,rfl,S108.sub,w96.arg,e110,fun v114 F111 H112 c113 w116 f115 => ?_⟩
   have S117 := S108.call1 c113 w96
   obtain ⟨f85,f101,f107⟩ := up3 f85 f101 f107 c113
   have w118 := w96.back w116
   cases (show v114 = (V.int (t109.1)) from f115)
   obtain ⟨t119,e120,hm77⟩ := Zab hm77
   refine Zbp (S117.l f107).r e120 (fun u121 f122 => ?_)
   cases (show u121 = (V.str (t119)) from f122)
   obtain ⟨t123,e124,hm77⟩ := Zab hm77
   refine Zaa <| Zad <| rd_v rfl <| rd_v rfl ?_
   refine Zbp (S117.l f85).r e124 (fun u125 f126 => ?_)
   obtain ⟨t127,e128,hm77⟩ := Zab hm77
   refine Zaa <| Zad <| rd_v rfl <| Zad <| rd_v rfl <| rd_c <| Zax ?_
   refine Zbp (S117.l f85).r e128 (fun u129 f130 => ?_)
   refine Zac <| Zfg rfl ?_
   refine alLr (K := K) (B := (fc qS (fc qSh (f1 qSh)))) (a := (t119,t123,t127)) S117 ⟨_,_,rfl,rfl,_,_,rfl,f126,_,rfl,f130⟩ (fun v131 F132 H133 c134 f135 => ?_)
   have S136 := S117.call0 c134
   obtain ⟨f85,f101⟩ := up2 f85 f101 c134
   have w118 := w118.call0 c134
   have f137 : qSh.r K F132 v131 (Shp.nd ((t119,t123,t127)).1 ((t119,t123,t127)).2.1 ((t119,t123,t127)).2.2) := sh_of3 f135
   refine Zac <| Zfg rfl ?_
   refine alL (K := K) (A := qSh) (xs := [(Shp.nd ((t119,t123,t127)).1 ((t119,t123,t127)).2.1 ((t119,t123,t127)).2.2)]) S136 (.cons f137 .nil) (fun v138 F139 H140 c141 f142 => ?_)
   have S143 := S136.call0 c141
   obtain ⟨f85,f101⟩ := up2 f85 f101 c141
   have w118 := w118.call0 c141
   obtain ⟨g144,hm77⟩ := Zae hm77
   refine rd_cat (S143.l f101) (S143.l f142) g144 ?_
   refine alL' S143 (fun v145 F146 H147 c148 f149 => ?_)
   have S150 := S143.call0 c148
   have f85 := f85.up c148
   have w118 := w118.call0 c148
   refine Zel ?_
   refine rd_v rfl ?_
   refine Zdr ?_
   refine Zad <| rd_v rfl <| rd_c <| Zax ?_
   refine rd_i ?_
   refine Zf3 ?_
   refine Zj3 (S150.l f85).r ?_
   refine alL' S150 (fun v151 F152 H153 c154 f155 => ?_)
   have S156 := S150.call0 c154
   obtain ⟨f85,f149⟩ := up2 f85 f149 c154
   have w118 := w118.call0 c154
   obtain ⟨g157,hm77⟩ := Zae hm77
   refine rd_cat (S156.l f149) (S156.l f155) g157 ?_
   refine alL' S156 (fun v158 F159 H160 c161 f162 => ?_)
   have S163 := S156.call0 c161
   have f85 := f85.up c161
   have w118 := w118.call0 c161
   cases hm77
   refine Zam ?_
   exact ⟨F159,_,_,_,rfl,S163,f162,w118⟩
  ·
   rintro σ164 H165 ⟨F166,x168,o169,o170,rfl,S167,f171,w172⟩
   have S173 := S47.call1 S167 w_pool_here
   have w174 : Ow (fun a => a = p_pool_here) H0 _ _ _ _ := ⟨w172.fr,w172.at_,w_pool_here.mine⟩
   obtain ⟨t175,e176,hm⟩ := Zab hm
   refine Zai <| Zad <| rd_v rfl <| rd_c ?_
   refine Zbp (S173.l f171).r e176 (fun u177 f178 => ?_)
   cases hm
   exact hQ _ _ _ S173 w174 f178
def sp_law (K : PySem.W.Frag) : Sp := fun vs H Q _ => ∃ (F : Hp) (v_script : V) (a_script : List Int) (r : Bool),vs = [v_script] ∧ Same F H ∧ qC.r K F v_script a_script ∧ m_law a_script = some r ∧ ∀ v F' H',Sx P0 F H F' H' → qB.r K F' v r → Q v H'
theorem sc_law : FnScope ["_law_script","_law_k","_law_pool_here","_law_drawn","_law_at"] ["_law_script"] (defScope s_law) := ⟨rfl,rfl,rfl,by decide +kernel,rfl,by decide +kernel,by decide +kernel⟩
theorem bn_law (T : Tx K mg) : Binds K (fdOf K ("law",none)) ["_law_script"] [] := FunD.bindsN T.F_law fun _ _ _ _ _ _ us hl => match us,hl with | [_],_ => rfl
theorem ok_law (T : Tx K mg) : FnOk P w K mg base CX0 16 (He.ga K "law") (fdOf K ("law",none)) ["_law_script"] (sp_law K) := by
 refine FunD.ok T.F_law sc_law (fun vs H0 Q E h => ?_) (fun cdv A outer s H0 vs Q E hr h => ?_)
 ·
  obtain ⟨_,_,_,_,rfl,_⟩ := h
  rfl
 ·
  obtain ⟨F0,v_script,a_script,r,rfl,hE,f_script,hm,hQ⟩ := h
  refine ⟨_,PSs.nox ((pss_cons (ps_for PassesOwn.never rfl (pi_range1 (by rfl) T.n_range (pa_cons (pe_callB (cr_max2 rfl) (by rfl) T.n_max (by decide +kernel) (pa_cons pe_int (pa_cons (pe_callB (cr_min2 rfl) (by rfl) T.n_min (by decide +kernel) (pa_cons pe_int (pa_cons (pe_callB (r := Zc9 K) Za3 (by rfl) T.n_len (by decide +kernel) (pa_cons (pv 0) pa_nil)) pa_nil))) pa_nil))) pa_nil)) (pg_name (i := 1) sc_law.nd rfl (dk rfl)) (pss_cons (ps_set (i := 2) sc_law.nd rfl (dk rfl) (pe_call (ok_law_pool T) (hr.mono (by decide)) (by rfl) T.g_law_pool T.F_law_pool.kp (bn_law_pool T) .nil pass0 (pa_cons (pv 0) (pa_cons (pv 1) pa_nil)))) (pss_cons (ps_setLc (i := 3) (own := [("_law_at",4)]) (tt := tYes) rfl sc_law.nd rfl rfl (sw_true rfl rfl rfl (by decide +kernel)) (pi_range1 (by rfl) T.n_range (pa_cons (pe_op op_add pe_int (pe_call (Zar T) (hr.mono (by decide)) (by rfl) T.g_law_take T.F_law_take.kp (Zat T) .nil pass0 (pa_cons (pv 2) (pa_cons pe_int pa_nil)))) pa_nil)) (blkOk_by (N := ["_law_script","_law_k","_law_pool_here","_law_drawn","_law_at"]) (sc := defScope s_law) (by decide +kernel)) (fun _ _ _ _ _ => pg_name (i := 4) sc_law.nd rfl (Or.inl rfl)) (fun _ _ _ _ _ => pts_nil) (fun _ _ _ _ _ => (pe_call (ok_law_rich T) (hr.mono (by decide)) (by rfl) T.g_law_rich T.F_law_rich.kp (bn_law_rich T) .nil pass0 (pa_cons (pv 2) pa_nil)))) (pss_one (ps_if (pt_not (pt_val (pe_call (ok_law_right T) (hr.mono (by decide)) (by rfl) T.g_law_right T.F_law_right.kp (bn_law_right T) .nil pass0 (pa_cons (pv 2) (pa_cons (pv 3) (pa_cons (pe_call (ok_law_shape T) (hr.mono (by decide)) (by rfl) T.g_law_shape T.F_law_shape.kp (bn_law_shape T) .nil pass0 (pa_cons (pv 2) (pa_cons (pe_callB (r := Zc9 K) Za3 (by rfl) T.n_len (by decide +kernel) (pa_cons (pv 3) pa_nil)) pa_nil))) pa_nil)))))) (pss_one (ps_ret pe_bl)) pss_nil))))) (pss_one (ps_ret pe_bl)))),?_⟩
  have S : Sx P0 F0 H0 F0 H0 := Sx.refl0 hE
  unfold m_law at hm
  obtain ⟨g1,hm⟩ := Zae hm
  refine Zaf <| Zdv ?_
  refine Zi6 ?_
  refine Zaa <| Zay <| Zaa <| rd_c <| Zaa <| Zay <| Zaa <| rd_c <| Zaa <| Zay <| Zaa <| rd_v rfl <| Zac ?_
  refine Zbi (S.c f_script).q ?_
  refine Zac ?_
  refine rd_min2 ?_
  refine Zac ?_
  refine rd_max2 ?_
  refine Zac ?_
  refine rd_r1 g1 ?_
  obtain ⟨t2,e3,hm⟩ := Zab hm
  refine rd_forC Zg5 (Ziu (K := K) (F := F0)) e3 (fun (s4 : Unit) σ H => ∃ (F : Hp) (o1 : Option V) (o2 : Option V) (o3 : Option V) (o4 : Option V),σ = [some v_script,o1,o2,o3,o4] ∧ Sx P0 F0 H0 F H) ?_ ?_ ?_ ?_
  ·
   intro _ _ _ _; trivial
  ·
   have S6 := Sx.refl0 S.sub
   exact ⟨F0,_,_,_,_,rfl,S6⟩
  ·
   rintro x7 v8 s9 c13 σ10 H11 f12 ⟨F14,o16,o17,o18,o19,rfl,S15⟩ hm22 hbk20 hrt21
   have f_script := f_script.up S15
   unfold Zkw at hm22
   cases (show v8 = (V.int (x7)) from f12)
   obtain ⟨t23,e24,hm22⟩ := Zab hm22
   refine Zam <| Zaf <| Zak <| Zah <| Zaa <| rd_v rfl <| Zaa <| rd_v rfl <| Zac ?_
   refine ⟨F14,_,_,_,t23,rfl,S15.sub,f_script,e24,fun p28 F25 H26 np29 c27 w30 => ?_⟩
   have z31 := S15.free0 np29
   have S32 := S15.call0 c27
   have f_script := f_script.up c27
   have w33 : Ow P0 H0 _ _ _ _ := ⟨w30.fr,w30.at_,.inl z31⟩
   obtain ⟨t34,e35,hm22⟩ := Zab hm22
   refine Zam <| Zaf <| Zak <| rd_lc ?_
   refine Zi6 ?_
   refine Zaa <| Zad <| rd_c <| Zah <| Zaa <| rd_v rfl <| Zaa <| rd_c <| Zac ?_
   refine ⟨F25,_,_,_,t34,rfl,S32.sub,w33.arg,e35,fun v39 F36 H37 c38 w41 f40 => ?_⟩
   have S42 := S32.call1 c38 w33
   have f_script := f_script.up c38
   have w43 := w33.back w41
   cases (show v39 = (V.int (t34.1)) from f40)
   obtain ⟨g44,hm22⟩ := Zae hm22
   refine Zax <| Zac ?_
   refine rd_r1 g44 ?_
   obtain ⟨g45,hm22⟩ := Zae hm22
   obtain ⟨t46,e47,hm22⟩ := Zab hm22
   refine Zg1 (B := (qL qS)) Zg5 (Ziu (K := K) (F := F36)) e47 g45 (Pc := (fun a => a = p28)) (fun a z => by rw [z,w43.at_]; exact (fun h => nomatch h)) S42.sub (fun (s48 : (Int × Int)) F H => Ow (fun a => a = p28) H37 F H p28 (.lst [V.int s48.1,V.int s48.2])) ?_ ?_ ?_ ?_ ?_ ?_
   ·
    intro _ _ _ _ _; trivial
   ·
    exact ⟨w43.fr,w43.at_,.inr rfl⟩
   ·
    intro s F H q o w _ hq; exact w.temp hq
   ·
    intro s F H q u o w h0 hq; exact w.putO (ne_of_none w43.at_ h0)
   ·
    intro x50 v51 s52 o53 F54 H55 d56 acc57 f58 S59 w60 w61 n62 hm63 E64 N65 hN66 hE67
    have f_script := f_script.up S59
    have S68 : Sx (fun a => a = p28) _ _ _ _ := Sx.refl S59.sub (fun a z => by rw [z,w60.at_]; exact (fun h => nomatch h))
    have w69 : Ow (fun a => a = p28) H55 _ _ _ _ := ⟨w60.fr,w60.at_,.inr (rfl)⟩
    unfold Zkx at hm63
    cases (show v51 = (V.int (x50)) from f58)
    obtain ⟨t70,e71,hm63⟩ := Zab hm63
    refine Zam <| rd_wp rfl <| Zj2 <| if_tt <| Zah <| Zaa <| rd_v rfl <| Zac ?_
    refine ⟨F54,_,_,t70,rfl,S68.sub,w69.arg,e71,fun v75 F72 H73 c74 w77 f76 => ?_⟩
    have S78 := S68.call1 c74 w69
    have f_script := f_script.up c74
    have w79 := w69.back w77
    cases hm63
    exact hN66 _ _ _ _ rfl S78 f76 ⟨w79.fr,w79.at_,.inr rfl⟩
   intro p80 us81 F82 H83 n84 c85 w86 w87 r88
   have z89 := S42.free0 n84
   have ne90 : p28 ≠ p80 := w43.ne n84
   have S91 := S42.call1 c85 w43
   have f_script := f_script.up c85
   have w92 : Ow P0 H0 _ _ _ _ := ⟨w86.fr,w86.at_,w43.mine⟩
   have w93 : Ow P0 H0 _ _ _ _ := ⟨w87.fr,w87.at_,.inl z89⟩
   obtain ⟨F94,S95,le96,f97,_,eq98⟩ := fz S91 w93 z89 r88
   have f_script := qC.mono le96 f_script
   have w92 := w92.fzO ne90 eq98
   obtain ⟨t99,e100,hm22⟩ := Zab hm22
   refine Zam <| Zal <| Zgr <| Zgz <| Zah <| Zaa <| rd_v rfl <| Zaa <| rd_v rfl <| Zaa <| Zah <| Zaa <| rd_v rfl <| Zaa <| Zay <| Zaa <| rd_v rfl <| Zac ?_
   refine Zbi (S95.l f97).r.q ?_
   refine Zac ?_
   refine ⟨F94,_,_,_,t99,rfl,S95.sub,w92.arg,e100,fun v104 F101 H102 c103 w106 f105 => ?_⟩
   have S107 := S95.call1 c103 w92
   obtain ⟨f_script,f97⟩ := up2 f_script f97 c103
   have w108 := w92.back w106
   obtain ⟨t109,e110,hm22⟩ := Zab hm22
   refine Zac ?_
   refine ⟨F101,_,_,_,_,_,_,t109,rfl,S107.sub,w108.arg,f97,f105,e110,fun v114 F111 H112 c113 w116 f115 => ?_⟩
   have S117 := S107.call1 c113 w108
   obtain ⟨f_script,f97⟩ := up2 f_script f97 c113
   have w118 := w108.back w116
   cases (show v114 = (V.bl (t109.1)) from f115)
   refine rd_b ?_
   refine if_b hm22 (fun b119 hm22 => ?_) (fun b119 hm22 => ?_)
   ·
    cases hm22
    have e120 := hrt21 _ rfl
    subst e120
    have hm := aft_rt hm
    have S121 := S.call0 S117
    cases hm
    refine Zai <| rd_c ?_
    exact hQ _ _ _ S121 rfl
   ·
    cases hm22
    refine Zaj ?_
    exact ⟨_,rfl,⟨F111,_,_,_,_,rfl,S117⟩⟩
  ·
   rintro s124 σ122 H123 e125 ⟨F126,o128,o129,o130,o131,rfl,S127⟩
   subst e125
   have hm := aft_nx hm
   have S132 := S.call0 S127
   have f_script := f_script.up S127
   cases hm
   refine Zai <| rd_c ?_
   exact hQ _ _ _ S132 rfl
end
theorem Zb2 {p : Int × Int} {n : Int} (h : 0 < n) (h2 : n < 16000000) : Ok (Zap p n) fun r => 0 ≤ r.1 ∧ r.1 < n := by
 unfold Zap
 have hm : Zjx n = true := modOk_ok h
 have hz : n ≠ 0 := by omega
 refine Ok.ite (fun _ => ?_) fun _ => ?_
 ·exact Ok.gd hm (Ok.gd (divOk_ok h (by omega)) (Ok.sm ⟨Int.emod_nonneg _ hz,Int.emod_lt_of_pos _ h⟩))
 ·have b1 : 0 ≤ (p.2 * 48271 + 11) % 2147483647 := Int.emod_nonneg _ (by decide)
  have b2 : (p.2 * 48271 + 11) % 2147483647 < 2147483647 := Int.emod_lt_of_pos _ (by decide)
  refine Ok.gd (mulOk_r (by decide) (by decide)) (Ok.gd (by decide) (Ok.gd (mulOk_l ?_ ?_) (Ok.gd (by decide) (Ok.gd (by decide) (Ok.gd hm (Ok.sm ⟨Int.emod_nonneg _ hz,Int.emod_lt_of_pos _ h⟩))))))
  ·show -(2 ^ 64) < (p.2 * 48271 + 11) % 2147483647
   omega
  ·show (p.2 * 48271 + 11) % 2147483647 < 2 ^ 64
   omega
theorem pool_ok {ns : List Int} {k : Int} (h0 : 0 ≤ k) (h1 : k < 1000) : Ok (Zfa ns k) fun _ => True := by
 unfold Zfa
 refine Ok.bd (P := fun _ => True) (Ok.gd (shp_lI _) (Ok.gd (shp_lI _) (Ok.ite (fun e => ?_) fun _ => Ok.sm trivial))) fun t _ => ?_
 ·have hn : ns ≠ [] := by simpa using e
  have hl : (0 : Int) < (ns.length : Int) := by
   cases ns with
   | nil => exact absurd rfl hn
   | cons x xs => show (0 : Int) < ((xs.length + 1 : Nat) : Int); omega
  refine Ok.gd (modOk_ok hl) ?_
  have b1 : 0 ≤ k % (ns.length : Int) := Int.emod_nonneg _ (by omega)
  have b2 : k % (ns.length : Int) < ns.length := Int.emod_lt_of_pos _ hl
  have hlt : (k % (ns.length : Int)).toNat < ns.length := by omega
  exact Ok.bde (a := ns[(k % (ns.length : Int)).toNat]) (by rw [Zej b1 b2]; simp [hlt]) (Ok.sm trivial)
 ·have b1 : 0 ≤ t % 2147483629 := Int.emod_nonneg _ (by decide)
  have b2 : t % 2147483629 < 2147483629 := Int.emod_lt_of_pos _ (by decide)
  refine Ok.gd (by decide) (Ok.gd (mulOk_l (by decide) (by decide)) (Ok.gd (mulOk_r (by decide) (by decide)) (Ok.gd (by decide) (Ok.gd (by decide) (Ok.gd (mulOk_r ?_ ?_) (Ok.sm trivial))))))
  ·unfold b2I; split <;> decide
  ·unfold b2I; split <;> decide
abbrev SG : Str := " #-.0123456789:>ABCDEFGHIJKLMNOPQRSTUVWXYZabcdefghijklmnopqrstuvwxyz"
def gs (s : Str) : Prop := ∀ c ∈ cl s,c ∈ cl SG
theorem Zjg {a b : Str} (h : gs a) (k : gs b) : gs (a ++ b) := by
 intro c hc
 rw [Zjj,List.mem_append] at hc
 exact hc.elim (h c) (k c)
theorem gs_sg {c : Nat} (h : c ∈ cl SG) : gs ⟨#[c]⟩ := fun d hd => by
 rw [cl_sg,List.mem_singleton] at hd
 rw [hd]; exact h
theorem mem_cut {α : Type} {xs : List α} {lo hi : Option Int} {a : α} (h : a ∈ cut xs lo hi) : a ∈ xs := List.mem_of_mem_drop (List.mem_of_mem_take h)
theorem gs_cut {s : Str} {lo hi : Option Int} (h : gs s) : gs (cutS s lo hi) := fun c hc => h c (mem_cut (by rw [← Zfy]; exact hc))
theorem gs_rep {s : Str} {n : Int} (h0 : 0 ≤ n) (h : gs s) : gs (repS s n) := fun c hc => by
 rw [repS_cl h0,List.mem_flatten] at hc
 obtain ⟨l,h1,h2⟩ := hc
 rw [List.mem_replicate] at h1
 exact h c (h1.2 ▸ h2)
theorem gs_ok {s : Str} (h : gs s) : okS s := by
 have e : ∀ c ∈ cl SG,c < 0x110000 := by decide +kernel
 show (s.cps.all (· < 0x110000)) = true
 rw [Array.all_eq_true_iff_forall_mem]
 intro c hc
 exact decide_eq_true (e c (h c (Array.mem_toList_iff.mpr hc)))
theorem gs_nil : gs "" := fun c hc => by
 have e : cl "" = [] := by decide +kernel
 rw [e] at hc
 exact absurd hc List.not_mem_nil
theorem gs_at {s z : Str} {c : Nat} {i : Nat} (h : gs s) (h1 : (cl s)[i]? = some c) (h2 : z = ⟨#[c]⟩) : gs z ∧ z.length = 1 := by
 subst h2
 exact ⟨gs_sg (h c (List.mem_of_getElem? h1)),rfl⟩
theorem gs_SG : gs SG := fun c hc => hc
theorem ix_gs {s : Str} {i : Int} (g : gs s) (h : 0 ≤ i) (h2 : i < s.length) (h3 : s.length ≤ 16000000) : Ok (ixS s i) fun z => gs z ∧ z.length = 1 :=
 (ixS_ok h h2 (Nat.le_trans h3 Zb3)).mono fun z ⟨c,h1,h2⟩ => gs_at g h1 h2
theorem Zba (a b : Str) : (a ++ b).length = a.length + b.length := by rw [Zas,Zjj,List.length_append,← Zas,← Zas]
theorem len_rep {s : Str} {n : Int} (h : 0 ≤ n) : (repS s n).length = n.toNat * s.length := by
 rw [Zas,repS_cl h,List.length_flatten,List.map_replicate,List.sum_replicate_nat,← Zas]
theorem len_cut_to {s : Str} {n : Int} (h : 0 ≤ n) : (cutS s none (some n)).length = min n.toNat s.length := by
 rw [Zas,Zfy,Zjh _ h,List.length_take,← Zas]
theorem Zic {s : Str} {n : Int} (h : 0 ≤ n) : (cutS s (some n) none).length = s.length - n.toNat := by
 rw [Zas,Zfy,Zit _ h,List.length_drop,← Zas]
theorem len_nil : ("" : Str).length = 0 := by decide +kernel
theorem text_ok {p : Int × Int} : Ok (Zd1 p) fun r => gs r.1 ∧ 1 ≤ r.1.length ∧ r.1.length ≤ 4 := by
 unfold Zd1
 refine Ok.bd (Zb2 (by decide) (by decide)) fun t1 _ => Ok.bd (Zb2 (by decide) (by decide)) fun t2 h2 => ?_
 refine Ok.gd (Zgy (by omega) (by omega) (by omega) (by omega)) ?_
 refine Ok.bd (Ok.loop (fun pre s => gs s.2 ∧ s.2.length = pre.length) ⟨gs_nil,len_nil⟩ fun pre x post s e ⟨g,l⟩ => ?_) fun s ⟨g,l⟩ => Ok.sm ⟨g,?_,?_⟩
 ·unfold Zfi
  have fin : ∀ z : Str,gs z ∧ z.length = 1 → pre.length < 100 → gs (s.2 ++ z) ∧ (s.2 ++ z).length = (pre ++ [x]).length := fun z ⟨gz,lz⟩ _ => ⟨Zjg g gz,by rw [Zba,lz,l]; simp⟩
  have hp : pre.length < 100 := by
   have := congrArg List.length e
   rw [Zci] at this
   simp at this
   omega
  refine Ok.ite (fun _ => ?_) fun _ => ?_
  ·unfold Zbm
   refine Ok.bde rfl (Ok.bd (Zb2 (by decide) (by decide)) fun d hd => Ok.bd (ix_gs gs_SG hd.1 ?_ (by decide +kernel)) fun z hz => Ok.gd (Zdg ?_) (Ok.sm (fin z hz hp)))
   ·show d.1 < ((68 : Nat) : Int)
    exact hd.2
   ·rw [hz.2,l]; omega
  ·refine Ok.bd (Zb2 (by decide) (by decide)) fun d hd => Ok.bd (ix_gs (s := "a1-b") (fun c hc => ?_) hd.1 ?_ (by decide +kernel)) fun z hz => Ok.gd (Zdg ?_) (Ok.sm (fin z hz hp))
   ·revert c; decide +kernel
   ·show d.1 < ((4 : Nat) : Int)
    exact hd.2
   ·rw [hz.2,l]; omega
 ·show 1 ≤ s.2.length
  rw [l,Zci]; omega
 ·show s.2.length ≤ 4
  rw [l,Zci]; omega
abbrev DG : Str := "<digits>"
abbrev WD : Str := "<word>"
abbrev AN : Str := "<any>"
def part (s : Str) : Prop := s = AN ∨ s = DG ∨ s = WD ∨ (gs s ∧ 1 ≤ s.length ∧ s.length ≤ 4)
theorem part_ok {s : Str} (h : part s) : okS s := by
 rcases h with rfl | rfl | rfl | h
 ·show PyData.strOk _ = true; decide +kernel
 ·show PyData.strOk _ = true; decide +kernel
 ·show PyData.strOk _ = true; decide +kernel
 ·exact gs_ok h.1
theorem Zhd {s : Str} (h : part s) : 1 ≤ s.length ∧ s.length ≤ 8 := by
 rcases h with rfl | rfl | rfl | h
 ·decide +kernel
 ·decide +kernel
 ·decide +kernel
 ·omega
theorem line_ok {p : Int × Int} {ps : List Str} (h : ∀ s ∈ ps,part s) (hl : ps.length ≤ 4) : Ok (Zfb p ps) fun r => gs r.1 ∧ r.1.length ≤ 40 := by
 unfold Zfb
 refine Ok.bd (Ok.loop (fun pre s => gs s.2 ∧ s.2.length ≤ 10 * pre.length) ⟨gs_nil,by rw [len_nil]; omega⟩ fun pre x post s e ⟨g,l⟩ => ?_) fun s ⟨g,l⟩ => Ok.sm ⟨g,?_⟩
 ·have hp : pre.length ≤ 3 := by
   have := congrArg List.length e
   simp at this
   omega
  have hx : part x := h x (by rw [e]; simp)
  have fin : ∀ z : Str,gs z → z.length ≤ 10 → gs (s.2 ++ z) ∧ (s.2 ++ z).length ≤ 10 * (pre ++ [x]).length := fun z gz lz => ⟨Zjg g gz,by rw [Zba]; simp; omega⟩
  have rep : ∀ (z : Str) (n : Int),gs z → z.length ≤ 4 → 0 ≤ n → n * z.length ≤ 10 → n ≤ 100 → Zjp z n = true ∧ Zee s.2 (repS z n) = true ∧ gs (s.2 ++ repS z n) ∧ (s.2 ++ repS z n).length ≤ 10 * (pre ++ [x]).length := by
   intro z n gz lz h0 h1 h2
   have e1 : (repS z n).length ≤ 10 := by
    rw [len_rep h0]
    have e2 : ((n.toNat * z.length : Nat) : Int) ≤ 10 := by
     rw [Int.natCast_mul,Int.toNat_of_nonneg h0]; exact h1
    omega
   exact ⟨repOk_ok h0 h2 (by omega),Zdg (by omega),fin _ (gs_rep h0 gz) e1⟩
  unfold Zfk
  refine Ok.ite (fun _ => ?_) fun n1 => Ok.ite (fun _ => ?_) fun n2 => Ok.ite (fun _ => ?_) fun n3 => ?_
  ·refine Ok.bd (Zb2 (by decide) (by decide)) fun d hd => Ok.bd (ix_gs (s := "0123456789") (fun c hc => ?_) hd.1 ?_ (by decide +kernel)) fun z hz => Ok.bd (Zb2 (by decide) (by decide)) fun d2 hd2 => ?_
   ·revert c; decide +kernel
   ·show d.1 < ((10 : Nat) : Int)
    exact hd.2
   ·obtain ⟨r1,r2,r3,r4⟩ := rep z (1 + d2.1) hz.1 (by omega) (by omega) (by rw [hz.2]; omega) (by omega)
    exact Ok.gd r1 (Ok.gd r2 (Ok.sm ⟨r3,r4⟩))
  ·refine Ok.bd (Zb2 (by decide) (by decide)) fun d hd => Ok.bd (ix_gs (s := "aBzb") (fun c hc => ?_) hd.1 ?_ (by decide +kernel)) fun z hz => Ok.bd (Zb2 (by decide) (by decide)) fun d2 hd2 => ?_
   ·revert c; decide +kernel
   ·show d.1 < ((4 : Nat) : Int)
    exact hd.2
   ·obtain ⟨r1,r2,r3,r4⟩ := rep z (1 + d2.1) hz.1 (by omega) (by omega) (by rw [hz.2]; omega) (by omega)
    exact Ok.gd r1 (Ok.gd r2 (Ok.sm ⟨r3,r4⟩))
  ·refine Ok.bd text_ok fun z hz => Ok.bd (Zb2 (by decide) (by decide)) fun d2 hd2 => ?_
   obtain ⟨r1,r2,r3,r4⟩ := rep z.1 d2.1 hz.1 hz.2.2 (by omega) (by
    have : d2.1 = 0 ∨ d2.1 = 1 ∨ d2.1 = 2 := by omega
    rcases this with e | e | e <;> rw [e] <;> omega) (by omega)
   exact Ok.gd r1 (Ok.gd r2 (Ok.sm ⟨r3,r4⟩))
  ·rcases hx with rfl | rfl | rfl | hx
   ·exact absurd n3 (by decide +kernel)
   ·exact absurd n1 (by decide +kernel)
   ·exact absurd n2 (by decide +kernel)
   ·exact Ok.gd (Zdg (by omega)) (Ok.sm (fin x hx.1 (by omega)))
 ·show s.2.length ≤ 40
  omega
theorem spoiled_ok {p : Int × Int} {z : Str} (g : gs z) (h : z.length ≤ 100) : Ok (Zc2 p z) fun r => gs r.1 ∧ r.1.length ≤ z.length + 1 := by
 unfold Zc2
 have hf : Zb0 z = true := Za1 (by omega)
 refine Ok.gd hf (Ok.bd (Zb2 (by omega) (by omega)) fun t1 h1 => ?_)
 unfold Zbm
 refine Ok.bde rfl (Ok.bd (Zb2 (by decide) (by decide)) fun d hd => Ok.bd (ix_gs gs_SG hd.1 ?_ (by decide +kernel)) fun y hy => Ok.bd (Zb2 (by decide) (by decide)) fun t2 h2 => ?_)
 ·show d.1 < ((68 : Nat) : Int)
  exact hd.2
 have l1 := len_cut_to (s := z) h1.1
 have l2 := Zic (s := z) h1.1
 have l3 := Zic (s := z) (n := t1.1 + 1) (by omega)
 have g1 : gs (cutS z none (some t1.1)) := gs_cut g
 have g2 : gs (cutS z (some t1.1) none) := gs_cut g
 have g3 : gs (cutS z (some (t1.1 + 1)) none) := gs_cut g
 have l4 := Zba (cutS z none (some t1.1)) y
 refine Ok.ite (fun _ => Ok.gd hf (Ok.gd (Zdg (by omega)) (Ok.gd hf (Ok.gd (Zdg (by omega)) (Ok.sm ⟨Zjg (Zjg g1 hy.1) g2,?_⟩))))) fun _ => Ok.ite (fun _ => Ok.gd hf (Ok.gd hf (Ok.gd (Zdg (by omega)) (Ok.sm ⟨Zjg g1 g3,?_⟩)))) fun _ =>
  Ok.ite (fun _ => Ok.gd hf (Ok.gd (Zdg (by omega)) (Ok.gd hf (Ok.gd (Zdg (by omega)) (Ok.sm ⟨Zjg (Zjg g1 hy.1) g3,?_⟩))))) fun _ => Ok.sm ⟨g,by show z.length ≤ _; omega⟩
 ·show (_ ++ _ : Str).length ≤ _
  rw [Zba,Zba]; omega
 ·show (_ ++ _ : Str).length ≤ _
  rw [Zba]; omega
 ·show (_ ++ _ : Str).length ≤ _
  rw [Zba,Zba]; omega
theorem Ok.wh {S : Type} {c : S → Option (Bool × S)} {f : S → Option S} {Q : S → Prop} (I : S → Prop) (m : S → Nat) (hs : ∀ s,I s → Ok (c s) fun b => (b.1 = false ∧ Q b.2) ∨ (b.1 = true ∧ Ok (f b.2) fun s' => I s' ∧ m s' < m s)) : ∀ (N : Nat) (s : S),I s → m s < N → Ok (Zdh c f N s) Q
 | 0,_,_,h => absurd h (Nat.not_lt_zero _)
 | N + 1,s,i,h => by
  obtain ⟨b,e,h1⟩ := hs s i
  show Ok ((c s).bind fun b => if b.1 = true then (f b.2).bind fun s' => Zdh c f N s' else some b.2) Q
  rw [e]
  show Ok (if b.1 = true then (f b.2).bind fun s' => Zdh c f N s' else some b.2) Q
  rcases h1 with ⟨hb,q⟩ | ⟨hb,h2⟩
  ·rw [hb]; exact Ok.sm q
  ·rw [hb]
   exact Ok.bd h2 fun s' ⟨i',h3⟩ => Ok.wh I m hs N s' i' (by omega)
theorem nodup_len : ∀ (n : Nat) (l : List Int),l.Nodup → (∀ x ∈ l,0 ≤ x ∧ x < n) → l.length ≤ n
 | 0,l,_,h => by
  cases l with
  | nil => exact Nat.le_refl _
  | cons x l => have := h x List.mem_cons_self; omega
 | n + 1,l,hn,h => by
  have h1 := nodup_len n (l.erase (n : Int)) (hn.erase _) fun x hx => by
   rw [hn.mem_erase_iff] at hx
   have := h x hx.2
   have := hx.1
   omega
  by_cases hm : (n : Int) ∈ l
  ·rw [List.length_erase_of_mem hm] at h1; omega
  ·rw [List.erase_of_not_mem hm] at h1; omega
def tk (c x : Str) : Bool := if c = AN then true else if c = DG then inS x "0123456789" else if c = WD then inS x "ABCDEFGHIJKLMNOPQRSTUVWXYZabcdefghijklmnopqrstuvwxyz" else decide (c = x)
open Classical in
noncomputable def Pc (c : Str) (u : List Nat) : Prop := if c = AN then True else if c = DG ∨ c = WD then u ≠ [] ∧ ∀ x ∈ u,tk c ⟨#[x]⟩ = true else u = cl c
def Mt : List Str → List Nat → Prop
 | [],w => w = []
 | c :: cs,w => ∃ u v,w = u ++ v ∧ Pc c u ∧ Mt cs v
theorem Mt_snoc {c : Str} : ∀ {cs : List Str} {w : List Nat},Mt (cs ++ [c]) w ↔ ∃ u v,w = u ++ v ∧ Mt cs u ∧ Pc c v
 | [],w => by
  constructor
  ·rintro ⟨u,v,rfl,h,rfl⟩
   exact ⟨[],u,by simp,rfl,h⟩
  ·rintro ⟨u,v,rfl,rfl,h⟩
   exact ⟨v,[],by simp,h,rfl⟩
 | d :: cs,w => by
  constructor
  ·rintro ⟨u,v,rfl,h,k⟩
   obtain ⟨u2,v2,rfl,h2,k2⟩ := Mt_snoc.mp k
   exact ⟨u ++ u2,v2,by simp,⟨u,u2,rfl,h,h2⟩,k2⟩
  ·rintro ⟨u,v,rfl,⟨u1,u2,rfl,h1,h2⟩,k⟩
   exact ⟨u1,u2 ++ v,by simp,h1,Mt_snoc.mpr ⟨u2,v,rfl,h2,k⟩⟩
theorem AN_ne : ¬ DG = AN ∧ ¬ WD = AN ∧ ¬ WD = DG := by decide +kernel
theorem Zkb {u : List Nat} : Pc AN u := by unfold Pc; rw [if_pos rfl]; trivial
theorem Zif {c : Str} {u : List Nat} (h : c = DG ∨ c = WD) : Pc c u ↔ u ≠ [] ∧ ∀ x ∈ u,tk c ⟨#[x]⟩ = true := by
 have n : ¬ c = AN := by rcases h with rfl | rfl; exact AN_ne.1; exact AN_ne.2.1
 unfold Pc
 rw [if_neg n,if_pos h]
theorem Zig {c : Str} {u : List Nat} (n : ¬ c = AN) (h : ¬ (c = DG ∨ c = WD)) : Pc c u ↔ u = cl c := by
 unfold Pc
 rw [if_neg n,if_neg h]
theorem takes_eq (c x : Str) : Zf9 c x = some (tk c x) := by
 unfold Zf9 tk
 by_cases h1 : c = AN
 ·rw [if_pos (decide_eq_true h1),if_pos h1]
 ·rw [if_neg (by rw [decide_eq_false h1]; decide),if_neg h1]
  by_cases h2 : c = DG
  ·rw [if_pos (decide_eq_true h2),if_pos h2]
  ·rw [if_neg (by rw [decide_eq_false h2]; decide),if_neg h2]
   by_cases h3 : c = WD
   ·rw [if_pos (decide_eq_true h3),if_pos h3]
   ·rw [if_neg (by rw [decide_eq_false h3]; decide),if_neg h3]
theorem Zbb {α : Type} {p : Prop} [Decidable p] {x y : α} (h : ¬ p) : (if decide p = true then x else y) = y := if_neg (by rw [decide_eq_false h]; decide)
theorem Zcg {α : Type} {p : Prop} [Decidable p] {x y : α} (h : p) : (if decide p = true then x else y) = x := if_pos (decide_eq_true h)
theorem ltakes_eq (c x : Str) (h : c = DG ∨ c = WD) : Zdc c x = some (tk c x) := by
 unfold Zdc tk
 rcases h with rfl | rfl
 ·rw [if_pos (decide_eq_true rfl),if_neg AN_ne.1,if_pos rfl]
 ·rw [if_neg (by rw [decide_eq_false AN_ne.2.2]; decide),if_neg AN_ne.2.1,if_neg AN_ne.2.2,if_pos rfl,decide_eq_true rfl,Bool.true_and]
theorem ends_ok {c line : Str} {a : Int} (h0 : 0 ≤ a) (h1 : a ≤ line.length) (hl : line.length ≤ 4000000) (hc : c.length ≤ 500) :
 Ok (Zfc c line a) fun es => es.Nodup ∧ ∀ e,e ∈ es ↔ a ≤ e ∧ e ≤ line.length ∧ Pc c (((cl line).drop a.toNat).take (e.toNat - a.toNat)) := by
 have hf : Zb0 line = true := Za1 (by omega)
 have hfc : Zb0 c = true := Za1 (by omega)
 have rnd : ∀ a b : Int,(rng a b).Nodup := fun a b => by
  unfold rng
  refine List.Pairwise.map _ (fun x y h => ?_) List.nodup_range
  intro e
  apply h
  omega
 unfold Zfc
 by_cases n1 : c = AN
 ·rw [Zcg n1]
  refine Ok.gd hf (Ok.gd (rgFit_ok (by omega) (by omega) (by omega) (by omega)) (Ok.sm ⟨rnd _ _,fun e => ?_⟩))
  rw [Zhz]
  subst n1
  constructor
  ·intro h; exact ⟨h.1,by omega,Zkb⟩
  ·intro h; omega
 ·rw [Zbb n1]
  by_cases n2 : c = DG ∨ c = WD
  ·have mem : c ∈ [("<digits>" : Str),("<word>" : Str)] := by
    rcases n2 with h | h
    ·rw [h]; exact List.mem_cons_self
    ·rw [h]; exact List.mem_cons_of_mem _ List.mem_cons_self
   rw [Zcg mem]
   refine Ok.bd (P := fun es => es.Nodup ∧ ∀ e,e ∈ es ↔ a ≤ e ∧ e ≤ line.length ∧ Pc c (((cl line).drop a.toNat).take (e.toNat - a.toNat))) ?_ fun es hes => Ok.sm hes
   have ll : (cl line).length = line.length := (Zas line).symm
   refine Ok.bd (P := fun s : List Int × Int => s.1 = rng (a + 1) (s.2 + 1) ∧ a ≤ s.2 ∧ s.2 ≤ line.length ∧ (∀ j : Nat,a ≤ j → (j : Int) < s.2 → ∃ x,(cl line)[j]? = some x ∧ tk c ⟨#[x]⟩ = true) ∧ (s.2 < line.length → ∃ x,(cl line)[s.2.toNat]? = some x ∧ tk c ⟨#[x]⟩ = false)) ?_ fun s ⟨e1,e2,e3,e4,e5⟩ => Ok.sm ⟨by rw [e1]; exact rnd _ _,fun e => ?_⟩
   ·refine Ok.wh (fun s : List Int × Int => s.1 = rng (a + 1) (s.2 + 1) ∧ a ≤ s.2 ∧ s.2 ≤ line.length ∧ (∀ j : Nat,a ≤ j → (j : Int) < s.2 → ∃ x,(cl line)[j]? = some x ∧ tk c ⟨#[x]⟩ = true)) (fun s => line.length - s.2.toNat) (fun s ⟨e1,e2,e3,e4⟩ => ?_) fuel _ ⟨?_,Int.le_refl _,h1,fun j h2 h3 => absurd h3 (by omega)⟩ ?_
    ·unfold Zfp
     refine Ok.gd hf ?_
     by_cases hlt : s.2 < (line.length : Int)
     ·rw [Zcg hlt]
      have hlt2 : s.2.toNat < (cl line).length := by rw [ll]; omega
      have hz : ixS line s.2 = some ⟨#[(cl line)[s.2.toNat]]⟩ := by
       obtain ⟨z,e,x,hx,hz⟩ := ixS_ok (s := line) (i := s.2) (by omega) hlt (Nat.le_trans hl (Nat.le_trans (by decide) Zb3))
       rw [e,hz]
       rw [List.getElem?_eq_getElem hlt2] at hx
       rw [Option.some.inj hx]
      rw [hz]
      show Ok (((Zdc c _).bind fun t68 => some t68).bind _) _
      rw [ltakes_eq c _ n2]
      show Ok (some (tk c _,(s.1,s.2))) _
      refine Ok.sm ?_
      cases hb : tk c ⟨#[(cl line)[s.2.toNat]]⟩ with
      | false => exact .inl ⟨rfl,e1,e2,e3,e4,fun _ => ⟨_,List.getElem?_eq_getElem hlt2,hb⟩⟩
      | true =>
       refine .inr ⟨rfl,?_⟩
       unfold Zfo
       refine Ok.gd (Zdt ?_) (Ok.sm ⟨⟨?_,?_,?_,fun j h2 h3 => ?_⟩,?_⟩)
       ·show s.1.length < 16000000
        rw [e1,Zci]; omega
       ·show s.1 ++ [s.2 + 1] = rng (a + 1) (s.2 + 1 + 1)
        rw [rng_snoc (by omega),e1]
       ·show a ≤ s.2 + 1
        omega
       ·show s.2 + 1 ≤ line.length
        omega
       ·have h3 : (j : Int) < s.2 + 1 := h3
        by_cases ej : (j : Int) < s.2
        ·exact e4 j h2 ej
        ·have : j = s.2.toNat := by omega
         subst this
         exact ⟨_,List.getElem?_eq_getElem hlt2,hb⟩
       ·show line.length - (s.2 + 1).toNat < line.length - s.2.toNat
        omega
     ·rw [Zbb hlt]
      show Ok (some (false,(s.1,s.2))) _
      exact Ok.sm (.inl ⟨rfl,e1,e2,e3,e4,fun h => absurd h hlt⟩)
    ·show [] = rng (a + 1) (a + 1)
     unfold rng
     rw [show (a + 1 - (a + 1)).toNat = 0 by omega]; rfl
    ·show line.length - a.toNat < 1000000000
     omega
   ·show e ∈ s.1 ↔ _
    rw [e1,Zhz,Zif n2]
    constructor
    ·intro h
     refine ⟨by omega,by omega,?_,fun x hx => ?_⟩
     ·intro h2
      have := congrArg List.length h2
      rw [List.length_take,List.length_drop] at this
      simp at this
      omega
     ·obtain ⟨i,hi⟩ := List.getElem?_of_mem hx
      rw [List.getElem?_take] at hi
      split at hi
      ·rw [List.getElem?_drop] at hi
       obtain ⟨y,hy1,hy2⟩ := e4 (a.toNat + i) (by omega) (by omega)
       rw [hi] at hy1
       cases hy1
       exact hy2
      ·cases hi
    ·rintro ⟨h2,h3,h4,h5⟩
     refine ⟨?_,?_⟩
     ·apply Classical.byContradiction
      intro h6
      have : e.toNat - a.toNat = 0 := by omega
      rw [this] at h4
      exact h4 rfl
     ·apply Classical.byContradiction
      intro h6
      obtain ⟨x,hx1,hx2⟩ := e5 (by omega)
      have := h5 x (by
       apply List.mem_of_getElem? (i := s.2.toNat - a.toNat)
       rw [List.getElem?_take,if_pos (by omega),List.getElem?_drop,← hx1]
       congr 1
       omega)
      rw [this] at hx2
      cases hx2
  ·have mem : ¬ c ∈ [("<digits>" : Str),("<word>" : Str)] := by
    intro h
    rcases List.mem_cons.mp h with h | h
    ·exact n2 (.inl h)
    ·rcases List.mem_cons.mp h with h | h
     ·exact n2 (.inr h)
     ·cases h
   rw [Zbb mem]
   refine Ok.bd (P := fun es => es.Nodup ∧ ∀ e,e ∈ es ↔ a ≤ e ∧ e ≤ line.length ∧ Pc c (((cl line).drop a.toNat).take (e.toNat - a.toNat))) ?_ fun es hes => Ok.sm hes
   have ll : (cl line).length = line.length := (Zas line).symm
   have cc : (cl c).length = c.length := (Zas c).symm
   have ec : cl (cutS line (some a) (some (a + (c.length : Int)))) = ((cl line).drop a.toNat).take c.length := by
    rw [Zfy,cut_mid _ h0 (by omega)]
    congr 1
    omega
   refine Ok.gd hfc (Ok.gd hf ?_)
   by_cases he : cutS line (some a) (some (a + (c.length : Int))) = c
   ·rw [Zcg he]
    rw [he] at ec
    refine Ok.gd hfc (Ok.gd (Zdt (by simp)) (Ok.sm ⟨by simp,fun e => ?_⟩))
    rw [Zig n1 n2]
    show e ∈ [a + (c.length : Int)] ↔ _
    rw [List.mem_singleton]
    have hlen := congrArg List.length ec
    rw [List.length_take,List.length_drop,cc,ll] at hlen
    constructor
    ·rintro rfl
     refine ⟨by omega,by omega,?_⟩
     rw [ec]
     congr 1
     omega
    ·rintro ⟨h2,h3,h4⟩
     have := congrArg List.length h4
     rw [List.length_take,List.length_drop,cc,ll] at this
     omega
   ·rw [Zbb he]
    refine Ok.sm ⟨List.nodup_nil,fun e => ?_⟩
    rw [Zig n1 n2]
    constructor
    ·intro h; cases h
    ·rintro ⟨h2,h3,h4⟩
     exfalso
     apply he
     apply Zhn
     rw [ec,← h4]
     have := congrArg List.length h4
     rw [List.length_take,List.length_drop,cc,ll] at this
     congr 1
     omega
theorem take_mid {α : Type} {w : List α} {a b : Nat} (h : a ≤ b) : w.take b = w.take a ++ (w.drop a).take (b - a) := by
 have e : b = a + (b - a) := by omega
 rw [e,List.take_add,Nat.add_sub_cancel_left]
open Classical in
theorem fits_eq {ps : List Str} {line : Str} (hl : line.length ≤ 4000000) (hc : ∀ c ∈ ps,c.length ≤ 500) : Zd2 ps line = some (decide (line ≠ "" ∧ Mt ps (cl line))) := by
 refine Ok.eq ?_
 have ll : (cl line).length = line.length := (Zas line).symm
 have hf : Zb0 line = true := Za1 (by omega)
 unfold Zd2
 refine Ok.bd (Ok.loop (fun pre (s : List Int) => s.Nodup ∧ ∀ e,e ∈ s ↔ 0 ≤ e ∧ e ≤ line.length ∧ Mt pre ((cl line).take e.toNat)) ⟨by simp,fun e => ?_⟩ fun pre x post s hx ⟨nd,hs⟩ => ?_) fun s ⟨nd,hs⟩ => ?_
 ·rw [List.mem_singleton]
  show e = 0 ↔ 0 ≤ e ∧ e ≤ line.length ∧ (cl line).take e.toNat = []
  constructor
  ·rintro rfl; exact ⟨by omega,by omega,rfl⟩
  ·rintro ⟨h1,h2,h3⟩
   have := congrArg List.length h3
   rw [List.length_take,ll] at this
   simp at this
   omega
 ·unfold Zfl
  refine Ok.bd (Ok.loop (fun pre2 (s2 : List Int) => s2.Nodup ∧ ∀ e,e ∈ s2 ↔ ∃ a ∈ pre2,a ≤ e ∧ e ≤ line.length ∧ Pc x (((cl line).drop a.toNat).take (e.toNat - a.toNat))) ⟨List.nodup_nil,fun e => ?_⟩ fun pre2 a post2 s2 ha ⟨nd2,hs2⟩ => ?_) fun s2 ⟨nd2,hs2⟩ => Ok.sm ⟨nd2,fun e => ?_⟩
  ·constructor
   ·intro h; cases h
   ·rintro ⟨a,h,_⟩; cases h
  ·have hab : a ∈ s := by rw [ha]; simp
   have hab2 := (hs a).mp hab
   have bnd : ∀ l : List Int,l.Nodup → (∀ e ∈ l,0 ≤ e ∧ e ≤ line.length) → l.length ≤ 4000001 := fun l h h2 => by
    have := nodup_len (line.length + 1) l h fun e he => by have := h2 e he; omega
    omega
   have hb2 : ∀ e ∈ s2,0 ≤ e ∧ e ≤ (line.length : Int) := fun e he => by
    obtain ⟨a',ha',h2,h3,_⟩ := (hs2 e).mp he
    have := ((hs a').mp (by rw [ha]; exact List.mem_append_left _ ha')).1
    omega
   unfold Zfm
   refine Ok.bd (ends_ok hab2.1 hab2.2.1 hl (hc x (by rw [hx]; simp))) fun es ⟨nde,hes⟩ => ?_
   have hbe : ∀ e ∈ es,0 ≤ e ∧ e ≤ (line.length : Int) := fun e he => by
    have := (hes e).mp he
    omega
   have l1 := bnd es nde hbe
   have l2 := bnd s2 nd2 hb2
   refine Ok.gd (Zfr (by omega)) ?_
   refine Ok.bde (Zji (g := fun e => if (!decide (e ∈ s2)) = true then some e else none) fun e _ => ?_) ?_
   ·unfold Zfn
    cases decide (e ∈ s2) <;> rfl
   ·rw [Zhl]
    have l3 : (es.filter fun e => !decide (e ∈ s2)).length ≤ es.length := List.length_filter_le _ _
    refine Ok.gd (Zis (by show s2.length + (es.filter fun e => !decide (e ∈ s2)).length ≤ 16000000; omega)) (Ok.sm ⟨?_,fun e => ?_⟩)
    ·refine List.nodup_append.mpr ⟨nd2,nde.filter _,fun y hy z hz e => ?_⟩
     rw [List.mem_filter] at hz
     rw [e] at hy
     have h3 := hz.2
     simp [hy] at h3
    ·rw [List.mem_append,List.mem_filter]
     constructor
     ·rintro (h0 | ⟨h1,_⟩)
      ·obtain ⟨a',h1,h2⟩ := (hs2 e).mp h0
       exact ⟨a',List.mem_append_left _ h1,h2⟩
      ·exact ⟨a,by simp,(hes e).mp h1⟩
     ·rintro ⟨a',h1,h2⟩
      rcases List.mem_append.mp h1 with h1 | h1
      ·exact .inl ((hs2 e).mpr ⟨a',h1,h2⟩)
      ·rw [List.mem_singleton] at h1
       subst h1
       by_cases h3 : e ∈ s2
       ·exact .inl h3
       ·exact .inr ⟨(hes e).mpr h2,by simp [h3]⟩
  ·show e ∈ s2 ↔ _
   rw [hs2 e,Mt_snoc]
   constructor
   ·rintro ⟨a,h1,h2,h3,h4⟩
    have h5 := (hs a).mp h1
    refine ⟨by omega,h3,(cl line).take a.toNat,_,take_mid (by omega),h5.2.2,h4⟩
   ·rintro ⟨h1,h2,u,v,h3,h4,h5⟩
    have hlen := congrArg List.length h3
    rw [List.length_take,ll,List.length_append] at hlen
    have eu : u = (cl line).take u.length := by
     have h6 := congrArg (List.take u.length) h3
     rw [List.take_take,Nat.min_eq_left (by omega),List.take_left] at h6
     exact h6.symm
    have ev : v = ((cl line).drop u.length).take (e.toNat - u.length) := by
     have h6 := congrArg (List.drop u.length) h3
     rw [List.drop_take,List.drop_left] at h6
     exact h6.symm
    refine ⟨u.length,(hs _).mpr ⟨by omega,by omega,?_⟩,by omega,h2,?_⟩
    ·rw [Int.toNat_natCast,← eu]; exact h4
    ·rw [Int.toNat_natCast,← ev]; exact h5
 ·by_cases hn : line = ""
  ·rw [if_neg (by rw [decide_eq_true hn]; decide)]
   refine Ok.sm ?_
   rw [decide_eq_false (fun h => h.1 hn)]
  ·rw [if_pos (by rw [decide_eq_false hn]; rfl)]
   refine Ok.bde (by rw [Zao hf]) (Ok.sm ?_)
   have e1 : ((line.length : Int) ∈ s) ↔ Mt ps (cl line) := by
    rw [hs]
    rw [Int.toNat_natCast,← ll,List.take_length]
    exact ⟨fun h => h.2.2,fun h => ⟨by omega,by omega,h⟩⟩
   by_cases hm : Mt ps (cl line)
   ·rw [decide_eq_true (e1.mpr hm),decide_eq_true ⟨hn,hm⟩]
   ·rw [decide_eq_false (fun h => hm (e1.mp h)),decide_eq_false (fun h => hm h.2)]
def cell (c : Str) : Prop := c = AN ∨ c = DG ∨ c = WD ∨ ∃ x,c = ⟨#[x]⟩ ∧ x ∈ cl SG
def Rp (cs : List Str) (w : List Nat) (p : Nat) : Prop := Mt (cs.take p) w
open Classical in
noncomputable def Sp (cs : List Str) (w : List Nat) (p : Nat) : Prop := if cs[p]? = some AN then Rp cs w (p + 1) else Rp cs w p
def Clo (cs : List Str) (F : Nat → Prop) : Nat → Prop
 | 0 => F 0
 | k + 1 => F (k + 1) ∨ (cs[k]? = some AN ∧ Clo cs F k)
theorem Zjn {cs : List Str} {F G : Nat → Prop} : ∀ {p : Nat},(∀ q,q ≤ p → (F q ↔ G q)) → (Clo cs F p ↔ Clo cs G p)
 | 0,h => h 0 (Nat.le_refl _)
 | p + 1,h => by
  show (F (p + 1) ∨ _) ↔ (G (p + 1) ∨ _)
  rw [h (p + 1) (Nat.le_refl _),Zjn fun q hq => h q (Nat.le_succ_of_le hq)]
theorem Zg7 {cs : List Str} {w : List Nat} {p : Nat} {c : Str} (h : cs[p]? = some c) : Rp cs w (p + 1) ↔ ∃ u v,w = u ++ v ∧ Rp cs u p ∧ Pc c v := by
 unfold Rp
 rw [List.take_succ,h]
 exact Mt_snoc
theorem Rp_zero {cs : List Str} {w : List Nat} : Rp cs w 0 ↔ w = [] := Iff.rfl
theorem Zie {cs : List Str} {w : List Nat} {x p : Nat} (h : cs[p]? = some AN) : Rp cs (w ++ [x]) (p + 1) ↔ Rp cs (w ++ [x]) p ∨ Rp cs w (p + 1) := by
 rw [Zg7 h,Zg7 h]
 constructor
 ·rintro ⟨u,v,e,h1,_⟩
  rcases List.eq_nil_or_concat v with rfl | ⟨v',y,rfl⟩
  ·rw [List.append_nil] at e; rw [e]; exact .inl h1
  ·rw [List.concat_eq_append,← List.append_assoc] at e
   obtain ⟨e1,_⟩ := List.append_inj' e rfl
   exact .inr ⟨u,v',e1,h1,Zkb⟩
 ·rintro (h1 | ⟨u,v,rfl,h1,_⟩)
  ·exact ⟨_,[],by simp,h1,Zkb⟩
  ·exact ⟨u,v ++ [x],by simp,h1,Zkb⟩
theorem Rp_le {cs : List Str} {w : List Nat} {p : Nat} (h : cs[p]? = some AN) (k : Rp cs w p) : Rp cs w (p + 1) := (Zg7 h).mpr ⟨w,[],by simp,k,Zkb⟩
theorem Rp_run {cs : List Str} {w : List Nat} {x p : Nat} {c : Str} (h : cs[p]? = some c) (hc : c = DG ∨ c = WD) : Rp cs (w ++ [x]) (p + 1) ↔ tk c ⟨#[x]⟩ = true ∧ (Rp cs w p ∨ Rp cs w (p + 1)) := by
 rw [Zg7 h,Zg7 h]
 constructor
 ·rintro ⟨u,v,e,h1,h2⟩
  rw [Zif hc] at h2
  rcases List.eq_nil_or_concat v with rfl | ⟨v',y,rfl⟩
  ·exact absurd rfl h2.1
  ·rw [List.concat_eq_append] at e h2
   rw [← List.append_assoc] at e
   obtain ⟨e1,e2⟩ := List.append_inj' e rfl
   cases e2
   refine ⟨h2.2 x (by simp),?_⟩
   by_cases hv : v' = []
   ·subst hv; rw [List.append_nil] at e1; rw [e1]; exact .inl h1
   ·exact .inr ⟨u,v',e1,h1,(Zif hc).mpr ⟨hv,fun z hz => h2.2 z (by simp [hz])⟩⟩
 ·rintro ⟨ht,h1 | ⟨u,v,rfl,h1,h2⟩⟩
  ·exact ⟨w,[x],rfl,h1,(Zif hc).mpr ⟨by simp,fun z hz => by rw [List.mem_singleton] at hz; rw [hz]; exact ht⟩⟩
  ·rw [Zif hc] at h2
   exact ⟨u,v ++ [x],by simp,h1,(Zif hc).mpr ⟨by simp,fun z hz => by
    rcases List.mem_append.mp hz with hz | hz
    ·exact h2.2 z hz
    ·rw [List.mem_singleton] at hz; rw [hz]; exact ht⟩⟩
theorem sg_ne {y : Nat} : ¬ (⟨#[y]⟩ : Str) = AN ∧ ¬ ((⟨#[y]⟩ : Str) = DG ∨ (⟨#[y]⟩ : Str) = WD) := by
 have h : ∀ z : Str,(⟨#[y]⟩ : Str) = z → z.length = 1 := fun z e => by rw [← e]; rfl
 have h1 : ¬ AN.length = 1 := by decide +kernel
 have h2 : ¬ DG.length = 1 := by decide +kernel
 have h3 : ¬ WD.length = 1 := by decide +kernel
 exact ⟨fun e => h1 (h _ e),fun e => e.elim (fun e => h2 (h _ e)) fun e => h3 (h _ e)⟩
theorem Rp_fix {cs : List Str} {w : List Nat} {x y p : Nat} (h : cs[p]? = some ⟨#[y]⟩) : Rp cs (w ++ [x]) (p + 1) ↔ tk ⟨#[y]⟩ ⟨#[x]⟩ = true ∧ Rp cs w p := by
 obtain ⟨n1,n2⟩ := sg_ne (y := y)
 rw [Zg7 h]
 have ht : tk ⟨#[y]⟩ ⟨#[x]⟩ = true ↔ y = x := by
  unfold tk
  rw [if_neg n1,if_neg fun e => n2 (.inl e),if_neg fun e => n2 (.inr e),decide_eq_true_eq]
  constructor
  ·intro e; cases e; rfl
  ·rintro rfl; rfl
 rw [ht]
 constructor
 ·rintro ⟨u,v,e,h1,h2⟩
  rw [Zig n1 n2,cl_sg] at h2
  subst h2
  obtain ⟨e1,e2⟩ := List.append_inj' e rfl
  cases e2
  exact ⟨rfl,e1 ▸ h1⟩
 ·rintro ⟨rfl,h1⟩
  exact ⟨w,[y],rfl,h1,(Zig n1 n2).mpr rfl⟩
def Fd (cs : List Str) (S : Nat → Prop) (x : Nat) (q : Nat) : Prop :=
 (∃ a c,S a ∧ cs[a]? = some c ∧ tk c ⟨#[x]⟩ = true ∧ q = if c = AN then a else a + 1) ∨ (S q ∧ 0 < q ∧ ∃ c,cs[q - 1]? = some c ∧ (c = DG ∨ c = WD) ∧ tk c ⟨#[x]⟩ = true)
theorem tk_any {x : Str} : tk AN x = true := by unfold tk; rw [if_pos rfl]
theorem Zek {cs : List Str} {w : List Nat} {p : Nat} (h : cs[p]? = some AN) : Sp cs w p ↔ Rp cs w (p + 1) := by unfold Sp; rw [if_pos h]
theorem Sp_no {cs : List Str} {w : List Nat} {p : Nat} (h : ¬ cs[p]? = some AN) : Sp cs w p ↔ Rp cs w p := by unfold Sp; rw [if_neg h]
theorem Sp_of {cs : List Str} {w : List Nat} {p : Nat} (h : Rp cs w p) : Sp cs w p := by
 by_cases e : cs[p]? = some AN
 ·exact (Zek e).mpr (Rp_le e h)
 ·exact (Sp_no e).mpr h
theorem step_iff {cs : List Str} (hc : ∀ c ∈ cs,cell c) {w : List Nat} {x : Nat} : ∀ p : Nat,p ≤ cs.length → (Clo cs (Fd cs (Sp cs w) x) p ↔ Sp cs (w ++ [x]) p) := by
 -- what the cell ahead gives
 have back : ∀ p : Nat,p + 1 ≤ cs.length → ∀ c,cs[p]? = some c → ¬ c = AN → (Fd cs (Sp cs w) x (p + 1) → Sp cs (w ++ [x]) (p + 1)) ∧ (Rp cs (w ++ [x]) (p + 1) → Fd cs (Sp cs w) x (p + 1)) := by
  intro p hp c h hn
  have hns : ¬ cs[p]? = some AN := by rw [h]; exact fun e => hn (Option.some.inj e)
  have hcell := hc c (List.mem_of_getElem? h)
  have rfix : c = DG ∨ c = WD ∨ ∃ y,c = ⟨#[y]⟩ := by
   rcases hcell with e | e | e | ⟨y,e,_⟩
   ·exact absurd e hn
   ·exact .inl e
   ·exact .inr (.inl e)
   ·exact .inr (.inr ⟨y,e⟩)
  constructor
  ·rintro (⟨a,d,h1,h2,h3,h4⟩ | ⟨h1,_,d,h2,h3,h4⟩)
   ·by_cases hd : d = AN
    ·subst hd
     rw [if_pos rfl] at h4
     subst h4
     rw [Zek h2] at h1 ⊢
     exact (Zie h2).mpr (.inr h1)
    ·rw [if_neg hd] at h4
     have e : a = p := by omega
     subst e
     rw [h] at h2
     cases h2
     rw [Sp_no hns] at h1
     refine Sp_of ?_
     rcases rfix with e | e | ⟨y,e⟩
     ·exact (Rp_run h (.inl e)).mpr ⟨h3,.inl h1⟩
     ·exact (Rp_run h (.inr e)).mpr ⟨h3,.inl h1⟩
     ·subst e; exact (Rp_fix h).mpr ⟨h3,h1⟩
   ·rw [Nat.add_sub_cancel,h] at h2
    cases h2
    by_cases e : cs[p + 1]? = some AN
    ·rw [Zek e] at h1 ⊢
     exact (Zie e).mpr (.inr h1)
    ·rw [Sp_no e] at h1 ⊢
     exact (Rp_run h h3).mpr ⟨h4,.inr h1⟩
  ·intro h1
   rcases rfix with e | e | ⟨y,e⟩
   ·obtain ⟨h2,h3 | h3⟩ := (Rp_run h (.inl e)).mp h1
    ·exact .inl ⟨p,c,Sp_of h3,h,h2,by rw [if_neg hn]⟩
    ·exact .inr ⟨Sp_of h3,Nat.succ_pos _,c,by rw [Nat.add_sub_cancel]; exact h,.inl e,h2⟩
   ·obtain ⟨h2,h3 | h3⟩ := (Rp_run h (.inr e)).mp h1
    ·exact .inl ⟨p,c,Sp_of h3,h,h2,by rw [if_neg hn]⟩
    ·exact .inr ⟨Sp_of h3,Nat.succ_pos _,c,by rw [Nat.add_sub_cancel]; exact h,.inr e,h2⟩
   ·subst e
    obtain ⟨h2,h3⟩ := (Rp_fix h).mp h1
    exact .inl ⟨p,_,Sp_of h3,h,h2,by rw [if_neg hn]⟩
 -- a cell for any signs that stays
 have stay : ∀ p,Fd cs (Sp cs w) x p → cs[p]? = some AN → (∃ p',p = p' + 1 ∧ cs[p']? = some AN) ∨ p = 0 → Sp cs (w ++ [x]) p := by
  rintro p (⟨a,d,h1,h2,h3,h4⟩ | ⟨h1,h0,d,h2,h3,h4⟩) hp hb
  ·by_cases hd : d = AN
   ·subst hd
    rw [if_pos rfl] at h4
    subst h4
    rw [Zek h2] at h1 ⊢
    exact (Zie h2).mpr (.inr h1)
   ·rw [if_neg hd] at h4
    rcases hb with ⟨p',e1,e2⟩ | e
    ·have : a = p' := by omega
     subst this
     rw [h2] at e2
     exact absurd (Option.some.inj e2) hd
    ·omega
  ·rw [Zek hp] at h1 ⊢
   exact (Zie hp).mpr (.inr h1)
 have stay2 : ∀ p,cs[p]? = some AN → Rp cs w (p + 1) → Fd cs (Sp cs w) x p := fun p h1 h2 => .inl ⟨p,AN,(Zek h1).mpr h2,h1,tk_any,by rw [if_pos rfl]⟩
 intro p
 induction p with
 | zero =>
  intro _
  show Fd cs (Sp cs w) x 0 ↔ _
  have nz : ¬ Rp cs (w ++ [x]) 0 := by rw [Rp_zero]; simp
  by_cases e : cs[0]? = some AN
  ·rw [Zek e,Zie e]
   exact ⟨fun h => (Zie e).mp ((Zek e).mp (stay 0 h e (.inr rfl))),fun h => stay2 0 e (h.elim (fun h => absurd h nz) id)⟩
  ·rw [Sp_no e]
   refine ⟨fun h => ?_,fun h => absurd h nz⟩
   rcases h with ⟨a,d,h1,h2,h3,h4⟩ | ⟨_,h0,_⟩
   ·by_cases hd : d = AN
    ·subst hd
     rw [if_pos rfl] at h4
     subst h4
     exact absurd h2 e
    ·rw [if_neg hd] at h4; omega
   ·omega
 | succ p ih =>
  intro hp
  have ih := ih (by omega)
  show (Fd cs (Sp cs w) x (p + 1) ∨ (cs[p]? = some AN ∧ Clo cs (Fd cs (Sp cs w) x) p)) ↔ _
  rw [ih]
  have hlt : p < cs.length := by omega
  obtain ⟨c,hcp⟩ : ∃ c,cs[p]? = some c := ⟨cs[p],List.getElem?_eq_getElem hlt⟩
  by_cases e : cs[p]? = some AN
  ·-- the cell ahead is for any signs
   constructor
   ·rintro (h | ⟨_,h⟩)
    ·by_cases e1 : cs[p + 1]? = some AN
     ·exact stay (p + 1) h e1 (.inl ⟨p,rfl,e⟩)
     ·rcases h with ⟨a,d,h1,h2,h3,h4⟩ | ⟨_,_,d,h2,h3,_⟩
      ·by_cases hd : d = AN
       ·subst hd
        rw [if_pos rfl] at h4
        subst h4
        exact absurd h2 e1
       ·rw [if_neg hd] at h4
        have : a = p := by omega
        subst this
        rw [h2] at e
        exact absurd (Option.some.inj e) hd
      ·rw [Nat.add_sub_cancel,e] at h2
       cases h2
       rcases h3 with h3 | h3
       ·exact absurd h3.symm AN_ne.1
       ·exact absurd h3.symm AN_ne.2.1
    ·rw [Zek e] at h
     exact Sp_of h
   ·intro h
    by_cases e1 : cs[p + 1]? = some AN
    ·rw [Zek e1,Zie e1] at h
     rcases h with h | h
     ·exact .inr ⟨e,(Zek e).mpr h⟩
     ·exact .inl (stay2 _ e1 h)
    ·rw [Sp_no e1] at h
     exact .inr ⟨e,(Zek e).mpr h⟩
  ·have hn : ¬ c = AN := fun z => e (by rw [hcp,z])
   obtain ⟨b1,b2⟩ := back p hp c hcp hn
   constructor
   ·rintro (h | ⟨h,_⟩)
    ·exact b1 h
    ·exact absurd h e
   ·intro h
    by_cases e1 : cs[p + 1]? = some AN
    ·rw [Zek e1,Zie e1] at h
     rcases h with h | h
     ·exact .inl (b2 h)
     ·exact .inl (stay2 _ e1 h)
    ·rw [Sp_no e1] at h
     exact .inl (b2 h)
theorem start_iff {cs : List Str} (hc : ∀ c ∈ cs,cell c) : ∀ p : Nat,p ≤ cs.length → (Clo cs (fun q => q = 0) p ↔ Sp cs [] p) := by
 have nil : ∀ p c,cs[p]? = some c → (Rp cs [] (p + 1) ↔ c = AN ∧ Rp cs [] p) := by
  intro p c h
  rw [Zg7 h]
  constructor
  ·rintro ⟨u,v,e,h1,h2⟩
   obtain ⟨rfl,rfl⟩ := List.append_eq_nil_iff.mp e.symm
   refine ⟨?_,h1⟩
   rcases hc c (List.mem_of_getElem? h) with e | e | e | ⟨y,e,_⟩
   ·exact e
   ·exact absurd rfl ((Zif (.inl e)).mp h2).1
   ·exact absurd rfl ((Zif (.inr e)).mp h2).1
   ·subst e
    have := (Zig sg_ne.1 sg_ne.2).mp h2
    cases this
  ·rintro ⟨rfl,h1⟩
   exact ⟨[],[],rfl,h1,Zkb⟩
 have sp : ∀ p,Sp cs [] p ↔ Rp cs [] p := by
  intro p
  by_cases e : cs[p]? = some AN
  ·rw [Zek e,nil p AN e]; exact ⟨fun h => h.2,fun h => ⟨rfl,h⟩⟩
  ·rw [Sp_no e]
 intro p
 induction p with
 | zero => intro _; rw [sp]; show (0 = 0) ↔ ([] : List Nat) = []; simp
 | succ p ih =>
  intro hp
  rw [sp]
  have hlt : p < cs.length := by omega
  have hcp : cs[p]? = some cs[p] := List.getElem?_eq_getElem hlt
  show (p + 1 = 0 ∨ (cs[p]? = some AN ∧ Clo cs _ p)) ↔ _
  rw [ih (by omega),sp,nil p _ hcp,hcp]
  constructor
  ·rintro (h | ⟨h,h2⟩)
   ·omega
   ·exact ⟨Option.some.inj h,h2⟩
  ·rintro ⟨h,h2⟩
   exact .inr ⟨by rw [h],h2⟩
open Classical in
noncomputable def told (cs : List Str) (F : Nat → Prop) : List Int := (rng 0 ((cs.length : Int) + 1)).filter fun i => decide (F i.toNat)
open Classical in
theorem Zj1 {cs : List Str} {F G : Nat → Prop} (h : ∀ p,p ≤ cs.length → (F p ↔ G p)) : told cs F = told cs G := by
 unfold told
 refine List.filter_congr fun i hi => ?_
 rw [Zhz] at hi
 by_cases e : F i.toNat
 ·rw [decide_eq_true e,decide_eq_true ((h _ (by omega)).mp e)]
 ·rw [decide_eq_false e,decide_eq_false fun z => e ((h _ (by omega)).mpr z)]
open Classical in
theorem told_mem {cs : List Str} {F : Nat → Prop} {i : Int} : i ∈ told cs F ↔ 0 ≤ i ∧ i ≤ cs.length ∧ F i.toNat := by
 unfold told
 rw [List.mem_filter,Zhz,decide_eq_true_eq]
 constructor
 ·intro h; exact ⟨by omega,by omega,h.2⟩
 ·intro h; exact ⟨by omega,h.2.2⟩
theorem told_len {cs : List Str} {F : Nat → Prop} : (told cs F).length ≤ cs.length + 1 := by
 unfold told
 refine Nat.le_trans (List.length_filter_le _ _) ?_
 rw [Zci]; omega
theorem filter_len {α : Type} (p : α → Bool) (xs : List α) : (xs.filter p).length ≤ xs.length := List.length_filter_le _ _
open Classical in
theorem closed_eq {cs : List Str} {ps : List Int} (hl : cs.length ≤ 500) : Zgm cs ps = some (told cs (Clo cs fun q => (q : Int) ∈ ps)) := by
 unfold Zgm
 rw [Zao (Zgy (by omega) (by omega) (by omega) (by omega))]
 refine Ok.eq (Ok.bde (loop_pick (fun i => @decide (Clo cs (fun q => (q : Int) ∈ ps) i.toNat) (Classical.propDecidable _)) fun pre x post e => ?_) (Ok.sm rfl))
 obtain ⟨e1,e2,e3,e4⟩ := rng_at e
 have hx : x.toNat = pre.length := by omega
 have hpl : pre.length ≤ 501 := by omega
 unfold Zg3
 refine Ok.eq (Ok.bd (P := fun t => t = @decide (Clo cs (fun q => (q : Int) ∈ ps) x.toNat) (Classical.propDecidable _)) ?_ fun t ht => ?_)
 ·by_cases hm : x ∈ ps
  ·rw [Zcg hm]
   refine Ok.sm ?_
   symm
   apply decide_eq_true
   cases hq : x.toNat with
   | zero =>
    show ((0 : Nat) : Int) ∈ ps
    have : x = ((0 : Nat) : Int) := by omega
    rw [← this]; exact hm
   | succ k =>
    refine .inl ?_
    show ((k + 1 : Nat) : Int) ∈ ps
    have : x = ((k + 1 : Nat) : Int) := by omega
    rw [← this]; exact hm
  ·rw [Zbb hm]
   by_cases h0 : 0 < x
   ·rw [Zcg h0]
    obtain ⟨k,hk⟩ : ∃ k : Nat,x = ((k + 1 : Nat) : Int) := ⟨x.toNat - 1,by omega⟩
    have hk2 : x.toNat = k + 1 := by omega
    have hk1 : (x - 1).toNat = k := by omega
    have hlt : k < cs.length := by omega
    have hat : atI cs (x - 1) = some cs[k] := by
     rw [Zej (by omega) (by omega),hk1]; exact List.getElem?_eq_getElem hlt
    rw [hat]
    refine Ok.sm ?_
    show (decide (cs[k] = AN) && decide (x - 1 ∈ pre.filter _)) = _
    rw [← Bool.decide_and]
    have key : (cs[k] = AN ∧ x - 1 ∈ pre.filter fun i => @decide (Clo cs (fun q => (q : Int) ∈ ps) i.toNat) (Classical.propDecidable _)) ↔ Clo cs (fun q => (q : Int) ∈ ps) x.toNat := by
     rw [hk2]
     show _ ↔ (((k + 1 : Nat) : Int) ∈ ps ∨ (cs[k]? = some AN ∧ Clo cs _ k))
     rw [List.mem_filter,e2,Zhz,decide_eq_true_eq,hk1,List.getElem?_eq_getElem hlt]
     constructor
     ·rintro ⟨h1,_,h2⟩; exact .inr ⟨by rw [h1],h2⟩
     ·rintro (h | ⟨h1,h2⟩)
      ·exact absurd (by rw [hk]; exact h) hm
      ·exact ⟨Option.some.inj h1,⟨by omega,by omega⟩,h2⟩
    by_cases hz : Clo cs (fun q => (q : Int) ∈ ps) x.toNat
    ·rw [decide_eq_true (key.mpr hz)]; exact (decide_eq_true hz).symm
    ·rw [decide_eq_false fun z => hz (key.mp z)]; exact (decide_eq_false hz).symm
   ·rw [Zbb h0]
    refine Ok.sm ?_
    symm
    apply decide_eq_false
    have : x.toNat = 0 := by omega
    rw [this]
    show ¬ ((0 : Nat) : Int) ∈ ps
    have : x = ((0 : Nat) : Int) := by omega
    rw [← this]; exact hm
 ·rw [ht]
  refine Ok.ite (fun h => ?_) fun h => ?_
  ·refine Ok.gd (Zdt (Nat.lt_of_le_of_lt (filter_len _ _) (by omega))) (Ok.sm ?_)
   rw [if_pos h]
  ·refine Ok.sm ?_
   rw [if_neg (by rw [h]; decide)]
theorem started_eq {cs : List Str} (hc : ∀ c ∈ cs,cell c) (hl : cs.length ≤ 500) : Zga cs = some (told cs (Sp cs [])) := by
 unfold Zga
 refine Ok.eq (Ok.bde (closed_eq hl) (Ok.sm ?_))
 refine Zj1 fun p hp => ?_
 rw [← start_iff hc p hp]
 refine Zjn fun q _ => ?_
 rw [List.mem_singleton]; omega
theorem moved_eq {cs : List Str} (hc : ∀ c ∈ cs,cell c) (hl : cs.length ≤ 500) {w : List Nat} {x : Nat} : Zjc cs (told cs (Sp cs w)) ⟨#[x]⟩ = some (told cs (Sp cs (w ++ [x]))) := by
 unfold Zjc
 refine Ok.eq (Ok.bd (P := fun r : List Int => ∀ q : Nat,((q : Int) ∈ r ↔ Fd cs (Sp cs w) x q)) ?_ fun r hr => Ok.bde (closed_eq hl) (Ok.sm ?_))
 ·let G : Int → Nat → Prop := fun a q => (∃ c,cs[a.toNat]? = some c ∧ tk c ⟨#[x]⟩ = true ∧ q = if c = AN then a.toNat else a.toNat + 1) ∨ (q = a.toNat ∧ 0 < q ∧ ∃ c,cs[q - 1]? = some c ∧ (c = DG ∨ c = WD) ∧ tk c ⟨#[x]⟩ = true)
  refine (Ok.loop (fun pre (s : List Int) => s.length ≤ 2 * pre.length ∧ (∀ q : Nat,(q : Int) ∈ s ↔ ∃ a ∈ pre,G a q)) ⟨Nat.le_refl _,fun q => ?_⟩ fun pre a post s e ⟨hlen,hs⟩ => ?_).mono fun r ⟨_,hr⟩ q => ?_
  ·constructor
   ·intro h; cases h
   ·rintro ⟨a,h,_⟩; cases h
  ·have ha : a ∈ told cs (Sp cs w) := by rw [e]; simp
   obtain ⟨a0,a1,_⟩ := told_mem.mp ha
   have hpl : pre.length ≤ 501 := by
    have := congrArg List.length e
    have h2 := told_len (cs := cs) (F := Sp cs w)
    rw [List.length_append] at this
    omega
   unfold Zh2
   -- the first: on
   refine Ok.bd (P := fun t : List Int => t.length ≤ s.length + 1 ∧ ∀ q : Nat,(q : Int) ∈ t ↔ (q : Int) ∈ s ∨ ∃ c,cs[a.toNat]? = some c ∧ tk c ⟨#[x]⟩ = true ∧ q = if c = AN then a.toNat else a.toNat + 1) ?_ fun t ⟨tl,ht⟩ => ?_
   ·by_cases hlt : a < (cs.length : Int)
    ·have hlt2 : a.toNat < cs.length := by omega
     have hat : atI cs a = some cs[a.toNat] := by rw [Zej a0 hlt]; exact List.getElem?_eq_getElem hlt2
     rw [Zcg hlt,hat]
     show Ok (((((Zf9 cs[a.toNat] ⟨#[x]⟩).bind fun t65 => some t65)).bind fun t55 => _)) _
     rw [takes_eq]
     show Ok (if tk cs[a.toNat] ⟨#[x]⟩ = true then _ else _) _
     refine Ok.ite (fun h => ?_) fun h => ?_
     ·show Ok ((some cs[a.toNat]).bind _) _
      show Ok ((if decide (cs[a.toNat] = AN) = true then some a else some (a + 1)).bind _) _
      by_cases hA : cs[a.toNat] = AN
      ·rw [Zcg hA]
       refine Ok.gd (Zdt (by omega)) (Ok.sm ⟨by simp,fun q => ?_⟩)
       show (q : Int) ∈ s ++ [a] ↔ _
       rw [List.mem_append,List.mem_singleton]
       refine or_congr Iff.rfl ⟨fun h2 => ⟨_,List.getElem?_eq_getElem hlt2,h,by rw [if_pos hA]; omega⟩,?_⟩
       rintro ⟨c,h2,_,h3⟩
       rw [List.getElem?_eq_getElem hlt2] at h2
       cases h2
       rw [if_pos hA] at h3
       omega
      ·rw [Zbb hA]
       refine Ok.gd (Zdt (by omega)) (Ok.sm ⟨by simp,fun q => ?_⟩)
       show (q : Int) ∈ s ++ [a + 1] ↔ _
       rw [List.mem_append,List.mem_singleton]
       refine or_congr Iff.rfl ⟨fun h2 => ⟨_,List.getElem?_eq_getElem hlt2,h,by rw [if_neg hA]; omega⟩,?_⟩
       rintro ⟨c,h2,_,h3⟩
       rw [List.getElem?_eq_getElem hlt2] at h2
       cases h2
       rw [if_neg hA] at h3
       omega
     ·refine Ok.sm ⟨by omega,fun q => ⟨fun h2 => .inl h2,?_⟩⟩
      rintro (h2 | ⟨c,h2,h3,_⟩)
      ·exact h2
      ·rw [List.getElem?_eq_getElem hlt2] at h2
       cases h2
       rw [h] at h3
       cases h3
    ·rw [Zbb hlt]
     refine Ok.bde rfl (Ok.ite (fun h => absurd h (by decide)) fun _ => Ok.sm ⟨by omega,fun q => ⟨fun h2 => .inl h2,?_⟩⟩)
     rintro (h2 | ⟨c,h2,h3,_⟩)
     ·exact h2
     ·rw [List.getElem?_eq_none (by omega)] at h2
      cases h2
   -- the second: it stays
   ·have fin : ∀ z : List Int,(z.length ≤ t.length + 1 ∧ ∀ q : Nat,(q : Int) ∈ z ↔ (q : Int) ∈ t ∨ (q = a.toNat ∧ 0 < q ∧ ∃ c,cs[q - 1]? = some c ∧ (c = DG ∨ c = WD) ∧ tk c ⟨#[x]⟩ = true)) → z.length ≤ 2 * (pre ++ [a]).length ∧ ∀ q : Nat,(q : Int) ∈ z ↔ ∃ a' ∈ pre ++ [a],G a' q := by
     rintro z ⟨zl,hz⟩
     refine ⟨by simp; omega,fun q => ?_⟩
     rw [hz q,ht q,hs q]
     constructor
     ·rintro ((⟨a',h1,h2⟩ | h) | h)
      ·exact ⟨a',List.mem_append_left _ h1,h2⟩
      ·exact ⟨a,by simp,.inl h⟩
      ·exact ⟨a,by simp,.inr h⟩
     ·rintro ⟨a',h1,h2⟩
      rcases List.mem_append.mp h1 with h1 | h1
      ·exact .inl (.inl ⟨a',h1,h2⟩)
      ·rw [List.mem_singleton] at h1
       subst h1
       rcases h2 with h2 | h2
       ·exact .inl (.inr h2)
       ·exact .inr h2
    refine Ok.mono ?_ fin
    by_cases h0 : 0 < a
    ·have hlt2 : a.toNat - 1 < cs.length := by omega
     have hat : atI cs (a - 1) = some cs[a.toNat - 1] := by
      rw [Zej (by omega) (by omega),show (a - 1).toNat = a.toNat - 1 by omega]; exact List.getElem?_eq_getElem hlt2
     rw [Zcg h0,hat]
     show Ok (((((if decide (cs[a.toNat - 1] ∈ [("<digits>" : Str),("<word>" : Str)]) = true then _ else some false).bind _)).bind _)) _
     by_cases hm : cs[a.toNat - 1] ∈ [("<digits>" : Str),("<word>" : Str)]
     ·have hd : cs[a.toNat - 1] = DG ∨ cs[a.toNat - 1] = WD := by
       rcases List.mem_cons.mp hm with h | h
       ·exact .inl h
       ·exact .inr (List.mem_singleton.mp h)
      rw [Zcg hm]
      show Ok (((((Zf9 cs[a.toNat - 1] ⟨#[x]⟩).bind fun t201 => some t201).bind fun t191 => some t191)).bind fun t163 => if t163 = true then _ else _) _
      rw [takes_eq]
      show Ok (if tk cs[a.toNat - 1] ⟨#[x]⟩ = true then _ else _) _
      refine Ok.ite (fun h => ?_) fun h => ?_
      ·refine Ok.gd (Zdt (by omega)) (Ok.sm ⟨by simp,fun q => ?_⟩)
       rw [List.mem_append,List.mem_singleton]
       refine or_congr Iff.rfl ⟨fun h2 => ?_,fun h2 => by omega⟩
       have hq : q = a.toNat := by omega
       exact ⟨hq,by omega,_,by rw [hq]; exact List.getElem?_eq_getElem hlt2,hd,h⟩
      ·refine Ok.sm ⟨by omega,fun q => ⟨fun h2 => .inl h2,?_⟩⟩
       rintro (h2 | ⟨h2,_,c,h3,_,h4⟩)
       ·exact h2
       ·rw [h2,List.getElem?_eq_getElem hlt2] at h3
        cases h3
        rw [h] at h4
        cases h4
     ·rw [Zbb hm]
      refine Ok.sm ⟨by omega,fun q => ⟨fun h2 => .inl h2,?_⟩⟩
      rintro (h2 | ⟨h2,_,c,h3,h4,_⟩)
      ·exact h2
      ·rw [h2,List.getElem?_eq_getElem hlt2] at h3
       cases h3
       rcases h4 with h4 | h4
       ·exact absurd (by rw [h4]; exact List.mem_cons_self) hm
       ·exact absurd (by rw [h4]; exact List.mem_cons_of_mem _ List.mem_cons_self) hm
    ·rw [Zbb h0]
     refine Ok.sm ⟨by omega,fun q => ⟨fun h2 => .inl h2,?_⟩⟩
     rintro (h2 | ⟨h2,h3,_⟩)
     ·exact h2
     ·omega
  ·rw [hr q]
   constructor
   ·rintro ⟨a,h1,h2⟩
    obtain ⟨h3,h4,h5⟩ := told_mem.mp h1
    rcases h2 with ⟨c,h6,h7,h8⟩ | ⟨h6,h7⟩
    ·exact .inl ⟨a.toNat,c,h5,h6,h7,h8⟩
    ·exact .inr ⟨by rw [h6]; exact h5,h7⟩
   ·rintro (⟨a,c,h1,h2,h3,h4⟩ | ⟨h1,h2,c,h3,h4⟩)
    ·have hlt : a < cs.length := by
      apply Classical.byContradiction
      intro h5
      rw [List.getElem?_eq_none (by omega)] at h2
      cases h2
     exact ⟨(a : Int),told_mem.mpr ⟨by omega,by omega,by rw [Int.toNat_natCast]; exact h1⟩,.inl ⟨c,by rw [Int.toNat_natCast]; exact h2,h3,by rw [Int.toNat_natCast]; exact h4⟩⟩
    ·have hlt : q - 1 < cs.length := by
      apply Classical.byContradiction
      intro h5
      rw [List.getElem?_eq_none (by omega)] at h3
      cases h3
     exact ⟨(q : Int),told_mem.mpr ⟨by omega,by omega,by rw [Int.toNat_natCast]; exact h1⟩,.inr ⟨by rw [Int.toNat_natCast],h2,c,h3,h4⟩⟩
 ·refine Zj1 fun p hp => ?_
  rw [← step_iff hc p hp]
  exact Zjn fun q _ => hr q
def Za7 (ps : List Str) : List Str := ps.flatMap fun p => if p ∈ ([DG,WD,AN] : List Str) then [p] else sgns p
theorem sgns_len (z : Str) : (sgns z).length = z.length := by rw [Zhw,List.length_map,← Zas]
theorem Zjk (ps : List Str) (p : Str) : Za7 (ps ++ [p]) = Za7 ps ++ if p ∈ ([DG,WD,AN] : List Str) then [p] else sgns p := by
 unfold Za7; rw [List.flatMap_append]; simp
theorem Zj8 {ps : List Str} (h : ∀ p ∈ ps,part p) : (Za7 ps).length ≤ 8 * ps.length := by
 induction ps with
 | nil => exact Nat.le_refl _
 | cons p ps ih =>
  have ih := ih fun q hq => h q (List.mem_cons_of_mem _ hq)
  show ((if p ∈ ([DG,WD,AN] : List Str) then [p] else sgns p) ++ Za7 ps).length ≤ _
  rw [List.length_append,List.length_cons]
  have : (if p ∈ ([DG,WD,AN] : List Str) then [p] else sgns p).length ≤ 8 := by
   split
   ·simp
   ·rw [sgns_len]; exact (Zhd (h p List.mem_cons_self)).2
  omega
theorem cellsT_cell {ps : List Str} (h : ∀ p ∈ ps,part p) : ∀ c ∈ Za7 ps,cell c := by
 intro c hc
 obtain ⟨p,hp,h2⟩ := List.mem_flatMap.mp hc
 split at h2
 ·rename_i hf
  rw [List.mem_singleton] at h2
  subst h2
  rcases List.mem_cons.mp hf with e | hf
  ·exact .inr (.inl e)
  ·rcases List.mem_cons.mp hf with e | hf
   ·exact .inr (.inr (.inl e))
   ·exact .inl (List.mem_singleton.mp hf)
 ·rename_i hf
  rcases h p hp with e | e | e | ⟨g,_⟩
  ·exact absurd (by rw [e]; simp) hf
  ·exact absurd (by rw [e]; simp) hf
  ·exact absurd (by rw [e]; simp) hf
  ·rw [Zhw,List.mem_map] at h2
   obtain ⟨y,hy,rfl⟩ := h2
   exact .inr (.inr (.inr ⟨y,rfl,g y hy⟩))
theorem cells_of_eq {ps : List Str} (h : ∀ p ∈ ps,part p) (hl : ps.length ≤ 50) : Zd3 ps = some (Za7 ps) := by
 unfold Zd3
 refine Ok.eq (Ok.bd (Ok.loop (fun pre s => s = Za7 pre) rfl fun pre x post s e hs => ?_) fun s hs => Ok.sm hs)
 have hp : ∀ p ∈ pre,part p := fun p hp => h p (by rw [e]; exact List.mem_append_left _ hp)
 have hx : part x := h x (by rw [e]; simp)
 have l1 := Zj8 hp
 have l2 := congrArg List.length e
 rw [List.length_append] at l2
 have l3 := Zhd hx
 subst hs
 unfold Zfq
 by_cases hf : x ∈ ([DG,WD,AN] : List Str)
 ·rw [Zcg hf]
  exact Ok.gd (Zdt (by omega)) (Ok.sm (by rw [Zjk,if_pos hf]))
 ·rw [Zbb hf]
  exact Ok.gd (Za1 (by omega)) (Ok.gd (Zis (by rw [sgns_len]; omega)) (Ok.sm (by rw [Zjk,if_neg hf])))
theorem Zkz (x : Str) (c : Nat) : inS ⟨#[c]⟩ x = decide (c ∈ cl x) := StrLaws.found_one x c
def isL (z : Str) : Bool := !decide (z = "") && (sgns z).all fun x => inS x SG
theorem line_loop : ∀ xs : List Str,Zh3 Zcb xs () = some (if (xs.all fun x => inS x SG) = true then .nx () else .rt false)
 | [] => rfl
 | x :: xs => by
  show ((Zcb x ()).bind _) = _
  unfold Zcb
  rw [List.all_cons]
  cases h : inS x SG with
  | false => rfl
  | true =>
   show Zh3 Zcb xs () = _
   rw [line_loop xs]; rfl
theorem Zg4 (z : Str) : Zfd (Th.d (PyData.str z)) = some (isL z) := by
 unfold Zfd isL
 show ((if decide (z = "") = true then some false else ((Zh3 Zcb (sgns z) ()).bind fun t23 => aft t23 fun s46 => some true))) = _
 rw [line_loop]
 by_cases h : z = ""
 ·rw [if_pos (decide_eq_true h),decide_eq_true h]; rfl
 ·rw [if_neg (by rw [decide_eq_false h]; decide),decide_eq_false h]
  cases (sgns z).all fun x => inS x SG <;> rfl
theorem isL_gs {z : Str} (g : gs z) (h : 1 ≤ z.length) : isL z = true := by
 have hn : ¬ z = "" := fun e => by
  have : z.length = 0 := by rw [e]; decide +kernel
  omega
 unfold isL
 rw [decide_eq_false hn]
 show ((sgns z).all fun x => inS x SG) = true
 rw [List.all_eq_true]
 intro x hx
 rw [Zhw,List.mem_map] at hx
 obtain ⟨c,hc,rfl⟩ := hx
 rw [Zkz]
 exact decide_eq_true (g c hc)
def fr (t : Str) : Prop := t = AN ∨ t = DG ∨ t = WD
theorem fr_mem {t : Str} : t ∈ ([DG,WD,AN] : List Str) ↔ fr t := by
 unfold fr
 simp only [List.mem_cons,List.not_mem_nil,or_false]
 constructor
 ·rintro (h | h | h)
  ·exact .inr (.inl h)
  ·exact .inr (.inr h)
  ·exact .inl h
 ·rintro (h | h | h)
  ·exact .inr (.inr h)
  ·exact .inl h
  ·exact .inr (.inl h)
theorem fr_mem2 {t : Str} : t ∈ ([AN,DG,WD] : List Str) ↔ fr t := by
 unfold fr
 simp only [List.mem_cons,List.not_mem_nil,or_false]
def okAt (ps : List Str) (k : Nat) (s : Str) : Prop := (s = AN ∧ AN ∉ ps.take k) ∨ s = DG ∨ s = WD ∨ (gs s ∧ 1 ≤ s.length ∧ s.length ≤ 4 ∧ ∀ t,0 < k → ps[k - 1]? = some t → fr t)
def alw (ps : List Str) : Prop := ∀ k s,ps[k]? = some s → okAt ps k s
theorem Zcf {ps : List Str} (h : alw ps) : ∀ s ∈ ps,part s := by
 intro s hs
 obtain ⟨k,hk⟩ := List.getElem?_of_mem hs
 rcases h k s hk with ⟨e,_⟩ | e | e | ⟨g,l,l2,_⟩
 ·exact .inl e
 ·exact .inr (.inl e)
 ·exact .inr (.inr (.inl e))
 ·exact .inr (.inr (.inr ⟨g,l,l2⟩))
theorem okAt_app {ps : List Str} {k : Nat} {s z : Str} (h : k ≤ ps.length) (o : okAt ps k s) : okAt (ps ++ [z]) k s := by
 rcases o with ⟨e,n⟩ | e | e | ⟨g,l,l2,n⟩
 ·exact .inl ⟨e,by rw [List.take_append_of_le_length h]; exact n⟩
 ·exact .inr (.inl e)
 ·exact .inr (.inr (.inl e))
 ·refine .inr (.inr (.inr ⟨g,l,l2,fun t h0 ht => n t h0 ?_⟩))
  rw [List.getElem?_append_left (by omega)] at ht
  exact ht
theorem alw_snoc {ps : List Str} {z : Str} (h : alw ps) (o : okAt ps ps.length z) : alw (ps ++ [z]) := by
 intro k s hk
 by_cases hlt : k < ps.length
 ·rw [List.getElem?_append_left hlt] at hk
  exact okAt_app (by omega) (h k s hk)
 ·rw [List.getElem?_append_right (by omega)] at hk
  have hz : k - ps.length = 0 := by
   apply Classical.byContradiction
   intro hne
   rw [List.getElem?_eq_none (by simp; omega)] at hk
   cases hk
  rw [hz] at hk
  cases hk
  have : k = ps.length := by omega
  subst this
  exact okAt_app (Nat.le_refl _) o
theorem rich_alw {p : Int × Int} : Ok (Ze9 p) fun r => alw r.1 ∧ 1 ≤ r.1.length ∧ r.1.length ≤ 4 := by
 unfold Ze9
 refine Ok.bd (Zb2 (by decide) (by decide)) fun t1 h1 => Ok.gd (Zgy (by omega) (by omega) (by omega) (by omega)) ?_
 refine Ok.bd (Ok.loop (fun pre s => alw s.2 ∧ s.2.length = pre.length) ⟨fun k s hk => by simp at hk,rfl⟩ fun pre x post s e ⟨g,l⟩ => ?_) fun s ⟨g,l⟩ => Ok.sm ⟨g,?_,?_⟩
 ·have hp : pre.length < 100 := by
   have := congrArg List.length e
   rw [Zci] at this
   simp at this
   omega
  have fin : ∀ z : Str,okAt s.2 s.2.length z → alw (s.2 ++ [z]) ∧ (s.2 ++ [z]).length = (pre ++ [x]).length := fun z hz => ⟨alw_snoc g hz,by simp [l]⟩
  have hf : fits s.2 = true := Zdt (by omega)
  have gp := Zcf g
  unfold Zfj
  refine Ok.bd (Zb2 (by decide) (by decide)) fun t2 h2 => Ok.gd (shp_lS fun z hz => part_ok (gp z hz)) (Ok.gd (shp_lS fun z hz => absurd hz List.not_mem_nil) ?_)
  refine Ok.bd (P := fun b => b = false → ∀ t,0 < s.2.length → s.2[s.2.length - 1]? = some t → fr t) (Ok.ite (fun hn => ?_) fun hn => Ok.sm fun _ t h0 => ?_) fun b hb => ?_
  ·have hn : s.2 ≠ [] := by simpa using hn
   obtain ⟨q,z,hq⟩ : ∃ q z,s.2 = q ++ [z] := ⟨s.2.dropLast,s.2.getLast hn,(List.dropLast_concat_getLast hn).symm⟩
   refine Ok.bde (a := z) (by rw [hq]; exact atI_last) (Ok.sm fun hz t h0 ht => ?_)
   have e2 : s.2.length - 1 = q.length := by rw [hq]; simp
   rw [e2,hq,List.getElem?_append_right (Nat.le_refl _),Nat.sub_self] at ht
   cases ht
   have hm : z ∈ ([AN,DG,WD] : List Str) := by
    apply Classical.byContradiction
    intro hne
    rw [decide_eq_false hne] at hz
    cases hz
   exact fr_mem2.mp hm
  ·have : s.2 = [] := by simpa using hn
   rw [this] at h0
   exact absurd h0 (by decide)
  ·refine Ok.ite (fun hA => Ok.gd hf (Ok.sm (fin _ (.inl ⟨rfl,?_⟩)))) fun _ => Ok.ite (fun _ => Ok.gd hf (Ok.sm (fin _ (.inr (.inl rfl))))) fun _ => Ok.ite (fun _ => Ok.gd hf (Ok.sm (fin _ (.inr (.inr (.inl rfl)))))) fun hW => ?_
   ·have := (Bool.and_eq_true_iff.mp hA).2
    rw [List.take_of_length_le (Nat.le_refl _)]
    simpa using this
   ·have hb0 : b = false := (Bool.or_eq_false_iff.mp hW).2
    exact Ok.bd text_ok fun t3 h3 => Ok.gd hf (Ok.sm (fin _ (.inr (.inr (.inr ⟨h3.1,h3.2.1,h3.2.2,hb hb0⟩)))))
 ·show 1 ≤ s.2.length
  rw [l,Zci]; omega
 ·show s.2.length ≤ 4
  rw [l,Zci]; omega
theorem allowed_eq {ps : List Str} (h : alw ps) (hl : ps.length ≤ 4) {k : Nat} (hk : k < ps.length) : Zdp ps (k : Int) = some true := by
 have hs : ps[k]? = some ps[k] := List.getElem?_eq_getElem hk
 have hat : atI ps (k : Int) = some ps[k] := by rw [Zej (by omega) (by omega),Int.toNat_natCast]; exact hs
 have ho := h k _ hs
 unfold Zdp
 refine Ok.eq (Ok.bde hat ?_)
 rw [if_neg (by rw [decide_eq_false (show ¬ (4 : Int) ≤ (k : Int) by omega)]; decide)]
 by_cases hA : ps[k] = AN
 ·rw [Zcg hA,Zjh _ (by omega),Int.toNat_natCast]
  refine Ok.sm ?_
  rcases ho with ⟨_,n⟩ | e | e | ⟨g,l,l2,_⟩
  ·rw [decide_eq_false n]; rfl
  ·rw [hA] at e; exact absurd e.symm AN_ne.1
  ·rw [hA] at e; exact absurd e.symm AN_ne.2.1
  ·rw [hA] at l2
   exact absurd l2 (by decide +kernel)
 ·rw [Zbb hA]
  by_cases hF : ps[k] ∈ ([DG,WD,AN] : List Str)
  ·rw [Zcg hF]; exact Ok.sm rfl
  ·rw [Zbb hF]
   rcases ho with ⟨e,_⟩ | e | e | ⟨g,l,l2,n⟩
   ·exact absurd e hA
   ·exact absurd (fr_mem.mpr (.inr (.inl e))) hF
   ·exact absurd (fr_mem.mpr (.inr (.inr e))) hF
   ·refine Ok.bd (P := fun t => t = false) ?_ fun t ht => ?_
    ·by_cases h0 : (0 : Int) < (k : Int)
     ·rw [Zcg h0]
      have hlt : k - 1 < ps.length := by omega
      have ht : ps[k - 1]? = some ps[k - 1] := List.getElem?_eq_getElem hlt
      refine Ok.bde (a := ps[k - 1]) (by rw [Zej (by omega) (by omega),show ((k : Int) - 1).toNat = k - 1 by omega]; exact ht) (Ok.sm ?_)
      rw [decide_eq_true (fr_mem.mpr (n _ (by omega) ht))]; rfl
     ·rw [Zbb h0]; exact Ok.sm rfl
    ·rw [ht,if_neg (by decide)]
     refine Ok.bde (Zg4 _) ?_
     rw [isL_gs g l,if_pos rfl]
     exact Ok.bde (by rw [Zao (Za1 (by omega))]) (Ok.sm (decide_eq_true (show ((ps[k].length : Int)) ≤ 4 by omega)))
theorem Zjf {ps : List Str} (h : alw ps) (hl : ps.length ≤ 4) (h1 : 1 ≤ ps.length) : Zan ps = some ps := by
 unfold Zan
 rw [Zbb (show ¬ (ps.length : Int) = 0 by omega),Zao (Zgy (by omega) (by omega) (by omega) (by omega))]
 refine Ok.eq (Ok.bd (Ok.loop (fun _ _ => True) trivial fun pre x post s e _ => ?_) fun _ _ => Ok.sm rfl)
 obtain ⟨e1,e2,e3,e4⟩ := rng_at e
 unfold Zc3
 have hx : x = (x.toNat : Int) := by omega
 rw [hx]
 refine Ok.bde (allowed_eq h hl (by omega)) ?_
 rw [if_neg (by decide)]
 exact Ok.sm trivial
theorem law_form_eq {ps : List Str} (h : alw ps) (hl : ps.length ≤ 4) (h1 : 1 ≤ ps.length) : Zdd ps = some ps := by
 unfold Zdd
 have at_ : ∀ (k : Nat) (hk : k < ps.length),atI ps (k : Int) = some ps[k] := fun k hk => by rw [Zej (by omega) (by omega),Int.toNat_natCast]; exact List.getElem?_eq_getElem hk
 match ps,h,hl,h1,at_ with
 | [a],h,_,_,at_ => exact Ok.eq (by rw [Zcg (show (([a] : List Str).length : Int) = 1 from rfl)]; exact Ok.bde (at_ 0 (by simp)) (Ok.bde (Zjf h (by simp) (by simp)) (Ok.sm rfl)))
 | [a,b],h,_,_,at_ => exact Ok.eq (by rw [Zbb (show ¬ (([a,b] : List Str).length : Int) = 1 from by simp),Zcg (show (([a,b] : List Str).length : Int) = 2 from rfl)]; exact Ok.bde (at_ 0 (by simp)) (Ok.bde (at_ 1 (by simp)) (Ok.bde (Zjf h (by simp) (by simp)) (Ok.sm rfl))))
 | [a,b,c],h,_,_,at_ => exact Ok.eq (by rw [Zbb (show ¬ (([a,b,c] : List Str).length : Int) = 1 from by simp),Zbb (show ¬ (([a,b,c] : List Str).length : Int) = 2 from by simp),Zcg (show (([a,b,c] : List Str).length : Int) = 3 from rfl)]; exact Ok.bde (at_ 0 (by simp)) (Ok.bde (at_ 1 (by simp)) (Ok.bde (at_ 2 (by simp)) (Ok.bde (Zjf h (by simp) (by simp)) (Ok.sm rfl)))))
 | [a,b,c,d],h,_,_,at_ => exact Ok.eq (by rw [Zbb (show ¬ (([a,b,c,d] : List Str).length : Int) = 1 from by simp),Zbb (show ¬ (([a,b,c,d] : List Str).length : Int) = 2 from by simp),Zbb (show ¬ (([a,b,c,d] : List Str).length : Int) = 3 from by simp)]; exact Ok.bde (at_ 0 (by simp)) (Ok.bde (at_ 1 (by simp)) (Ok.bde (at_ 2 (by simp)) (Ok.bde (at_ 3 (by simp)) (Ok.bde (Zjf h (by simp) (by simp)) (Ok.sm rfl))))))
 | _ :: _ :: _ :: _ :: _ :: _,_,hl,_,_ => exact absurd hl (by simp)
theorem Zhm {α β : Type} {f : α → Unit → Option (Option β × Unit)} (g : α → β) {xs : List α} (h : ∀ x ∈ xs,f x () = some (some (g x),())) : comp f xs () = some (xs.map g,()) := by
 rw [Zji (g := fun x => some (g x)) h]
 congr 2
 induction xs with
 | nil => rfl
 | cons x xs ih => rw [List.filterMap_cons,List.map_cons,ih fun y hy => h y (List.mem_cons_of_mem _ hy)]
theorem bs {α β : Type} (a : α) (f : α → Option β) : (some a).bind f = f a := rfl
def allForms (fs : List (List Str)) : Prop := fs.length ≤ 100 ∧ ∀ ps ∈ fs,alw ps ∧ 1 ≤ ps.length ∧ ps.length ≤ 4
theorem form_cells {ps : List Str} (h : alw ps ∧ 1 ≤ ps.length ∧ ps.length ≤ 4) : Zd3 ps = some (Za7 ps) ∧ (∀ c ∈ Za7 ps,cell c) ∧ (Za7 ps).length ≤ 32 := by
 have hp := Zcf h.1
 have := Zj8 hp
 exact ⟨cells_of_eq hp (by have := h.2.2; omega),cellsT_cell hp,by have := h.2.2; omega⟩
theorem Mt_app {cs ds : List Str} : ∀ {w : List Nat},Mt (cs ++ ds) w ↔ ∃ u v,w = u ++ v ∧ Mt cs u ∧ Mt ds v := by
 induction cs with
 | nil =>
  intro w
  constructor
  ·intro h; exact ⟨[],w,rfl,rfl,h⟩
  ·rintro ⟨u,v,rfl,rfl,h⟩; exact h
 | cons c cs ih =>
  intro w
  constructor
  ·rintro ⟨u,v,rfl,h1,h2⟩
   obtain ⟨u2,v2,rfl,h3,h4⟩ := ih.mp h2
   exact ⟨u ++ u2,v2,by simp,⟨u,u2,rfl,h1,h3⟩,h4⟩
  ·rintro ⟨u,v,rfl,⟨u1,u2,rfl,h1,h2⟩,h3⟩
   exact ⟨u1,u2 ++ v,by simp,h1,ih.mpr ⟨u2,v,rfl,h2,h3⟩⟩
theorem Mt_signs : ∀ {l w : List Nat},Mt (l.map fun c => (⟨#[c]⟩ : Str)) w ↔ w = l
 | [],w => Iff.rfl
 | c :: l,w => by
  constructor
  ·rintro ⟨u,v,rfl,h1,h2⟩
   rw [Zig sg_ne.1 sg_ne.2,cl_sg] at h1
   rw [h1,Mt_signs.mp h2]; rfl
  ·rintro rfl
   exact ⟨[c],l,rfl,(Zig sg_ne.1 sg_ne.2).mpr rfl,Mt_signs.mpr rfl⟩
theorem Mt_cells {ps : List Str} (h : ∀ p ∈ ps,part p) : ∀ {w : List Nat},Mt (Za7 ps) w ↔ Mt ps w := by
 induction ps with
 | nil => intro w; exact Iff.rfl
 | cons p ps ih =>
  intro w
  have ih := @ih fun q hq => h q (List.mem_cons_of_mem _ hq)
  have e : Za7 (p :: ps) = (if p ∈ ([DG,WD,AN] : List Str) then [p] else sgns p) ++ Za7 ps := by unfold Za7; rw [List.flatMap_cons]
  rw [e,Mt_app]
  have one : ∀ u,Mt (if p ∈ ([DG,WD,AN] : List Str) then [p] else sgns p) u ↔ Pc p u := by
   intro u
   by_cases hf : p ∈ ([DG,WD,AN] : List Str)
   ·rw [if_pos hf]
    constructor
    ·rintro ⟨a,b,rfl,h1,rfl⟩; rw [List.append_nil]; exact h1
    ·intro h1; exact ⟨u,[],by simp,h1,rfl⟩
   ·rw [if_neg hf,Zhw,Mt_signs]
    have hn : ¬ fr p := fun z => hf (fr_mem.mpr z)
    rw [Zig (fun z => hn (.inl z)) fun z => hn (z.elim (fun z => .inr (.inl z)) fun z => .inr (.inr z))]
  constructor
  ·rintro ⟨u,v,rfl,h1,h2⟩
   exact ⟨u,v,rfl,(one u).mp h1,ih.mp h2⟩
  ·rintro ⟨u,v,rfl,h1,h2⟩
   exact ⟨u,v,rfl,(one u).mpr h1,ih.mpr h2⟩
theorem Zky (xs : List Str) : cl (Txt.join "" xs) = xs.flatMap cl := by
 have e0 : ("" : Str).cps = #[] := by decide +kernel
 have fold : ∀ (ps : List Str) (acc : Array Nat),(ps.foldl (fun acc p => acc ++ ("" : Str).cps ++ p.cps) acc).toList = acc.toList ++ ps.flatMap cl := by
  intro ps
  induction ps with
  | nil => intro acc; simp
  | cons p ps ih =>
   intro acc
   rw [List.foldl_cons,ih,e0,List.flatMap_cons]
   show (acc ++ #[] ++ p.cps).toList ++ _ = _
   rw [Array.toList_append,Array.toList_append]
   simp [cl]
 cases xs with
 | nil => rfl
 | cons p ps =>
  show (ps.foldl (fun acc p => acc ++ ("" : Str).cps ++ p.cps) p.cps).toList = _
  rw [fold,List.flatMap_cons]; rfl
def evP (F : List Str → Bool) : Pat → Bool
 | .form ps => F ps
 | .both l r => evP F l && evP F r
 | .either l r => evP F l || evP F r
theorem cut_left {α : Type} (xs ys : List α) : cut (xs ++ ys) none (some (xs.length : Int)) = xs := by
 rw [Zjh _ (by omega),Int.toNat_natCast,List.take_left]
theorem cut_right {α : Type} (xs ys : List α) : cut (xs ++ ys) (some (xs.length : Int)) none = ys := by
 rw [Zit _ (by omega),Int.toNat_natCast,List.drop_left]
theorem Zgo : ∀ a : Pat,1 ≤ a.forms.length
 | .form _ => Nat.le_refl _
 | .both l r => by
  show 1 ≤ (l.forms ++ r.forms).length
  rw [List.length_append]; have := Zgo l; omega
 | .either l r => by
  show 1 ≤ (l.forms ++ r.forms).length
  rw [List.length_append]; have := Zgo l; omega
theorem Zgb (F : List Str → Bool) : ∀ a : Pat,a.holds (a.forms.map F) = some (evP F a)
 | .form ps => rfl
 | .both l r => by
  have e : (Pat.both l r).forms.map F = l.forms.map F ++ r.forms.map F := List.map_append
  rw [e]
  show ((l.holds (cut (l.forms.map F ++ r.forms.map F) none (some (l.forms.length : Int)))).bind fun b => if b = true then r.holds (cut (l.forms.map F ++ r.forms.map F) (some (l.forms.length : Int)) none) else some false) = some (evP F l && evP F r)
  rw [show (l.forms.length : Int) = ((l.forms.map F).length : Int) by rw [List.length_map],cut_left,cut_right,Zgb F l,Zgb F r]
  show (if evP F l = true then some (evP F r) else some false) = _
  cases evP F l <;> rfl
 | .either l r => by
  have e : (Pat.either l r).forms.map F = l.forms.map F ++ r.forms.map F := List.map_append
  rw [e]
  show ((l.holds (cut (l.forms.map F ++ r.forms.map F) none (some (l.forms.length : Int)))).bind fun b => if b = true then some true else r.holds (cut (l.forms.map F ++ r.forms.map F) (some (l.forms.length : Int)) none)) = some (evP F l || evP F r)
  rw [show (l.forms.length : Int) = ((l.forms.map F).length : Int) by rw [List.length_map],cut_left,cut_right,Zgb F l,Zgb F r]
  show (if evP F l = true then some true else some (evP F r)) = _
  cases evP F l <;> rfl
open Classical in
noncomputable def fitB (a : Pat) (w : List Nat) : Bool := evP (fun ps => decide (Mt (Za7 ps) w)) a
structure okP (a : Pat) : Prop where
 ht : a.ht ≤ 3
 fs : ∀ ps ∈ a.forms,alw ps ∧ 1 ≤ ps.length ∧ ps.length ≤ 4
 few : a.forms.length ≤ 16
theorem okP.all {a : Pat} (h : okP a) : allForms a.forms := ⟨by have := h.few; omega,h.fs⟩
theorem Za5 {a : Pat} (h : okP a) : Zcq a = some a.forms := Zb8 h.ht h.few
theorem pat_holds_eq {a : Pat} (h : okP a) (F : List Str → Bool) : Zjb a (a.forms.map F) = some (evP F a) := (Zb8 h.ht h.few).trans (Zgb F a)
open Classical in
theorem contains_any {a : Pat} (h : okP a) {z : Str} (g : gs z) (h1 : 1 ≤ z.length) : Zaw a z = some (fitB a (cl z)) := by
 have hn : z ≠ "" := fun e => by rw [e] at h1; exact absurd h1 (by decide +kernel)
 have one : ∀ ps ∈ a.forms,∀ s : List Bool,s.length ≤ 100 → Za0 z ps s = some (s ++ [decide (Mt (Za7 ps) (cl z))]) := fun ps hps s hs => by
  have hf := h.fs ps hps
  obtain ⟨e1,e2,e3⟩ := form_cells hf
  have hp := Zcf hf.1
  have hloop : Zbt (Zbf (Za7 ps)) (sgns z) (told (Za7 ps) (Sp (Za7 ps) [])) = some (told (Za7 ps) (Sp (Za7 ps) (cl z))) := by
   refine Ok.eq ((Ok.loop (fun pre (s : List Int) => ∃ q : List Nat,pre = q.map (fun c => (⟨#[c]⟩ : Str)) ∧ s = told (Za7 ps) (Sp (Za7 ps) q)) ⟨[],rfl,rfl⟩ fun pre x post s e ⟨q,hq,hs⟩ => ?_).mono fun r ⟨q,hq,hr⟩ => ?_)
   ·have hx : x ∈ sgns z := by rw [e]; simp
    rw [Zhw,List.mem_map] at hx
    obtain ⟨c,_,rfl⟩ := hx
    subst hs
    unfold Zbf
    exact Ok.bde (moved_eq e2 (by omega)) (Ok.sm ⟨q ++ [c],by rw [hq]; simp,rfl⟩)
   ·have inj : ∀ {l m : List Nat},l.map (fun c => (⟨#[c]⟩ : Str)) = m.map (fun c => (⟨#[c]⟩ : Str)) → l = m := by
     intro l
     induction l with
     | nil => intro m h; cases m with
      | nil => rfl
      | cons _ _ => cases h
     | cons a l ih => intro m h; cases m with
      | nil => cases h
      | cons b m =>
       rw [List.map_cons,List.map_cons] at h
       obtain ⟨h1,h2⟩ := List.cons.inj h
       cases h1
       rw [ih h2]
    rw [Zhw] at hq
    rw [hr,inj hq]
  have key : (((Za7 ps).length : Int) ∈ told (Za7 ps) (Sp (Za7 ps) (cl z))) ↔ Mt (Za7 ps) (cl z) := by
   rw [told_mem,Int.toNat_natCast,Sp_no (by rw [List.getElem?_eq_none (Nat.le_refl _)]; exact fun e => nomatch e)]
   unfold Rp
   rw [List.take_length]
   exact ⟨fun h => h.2.2,fun h => ⟨by omega,by omega,h⟩⟩
  unfold Za0 Zdq Zhj
  rw [bs,e1,bs,started_eq e2 (by omega),bs,hloop,bs,bs,Zao (Zdt (by omega))]
  congr 2
  by_cases hm : Mt (Za7 ps) (cl z)
  ·rw [decide_eq_true (key.mpr hm),decide_eq_true hm]
  ·rw [decide_eq_false fun q => hm (key.mp q),decide_eq_false hm]
 have all : Zbt (Za0 z) a.forms [] = some (a.forms.map fun ps => decide (Mt (Za7 ps) (cl z))) := by
  refine Ok.eq ((Ok.loop (fun pre (s : List Bool) => s = pre.map fun ps => decide (Mt (Za7 ps) (cl z))) rfl fun pre x post s e hs => ?_).mono fun r h => h)
  have hl := congrArg List.length e
  rw [List.length_append,List.length_cons] at hl
  have := h.few
  refine Ok.of (one x (by rw [e]; simp) s (by rw [hs,List.length_map]; omega)) ?_
  rw [hs,List.map_append]; rfl
 unfold Zaw
 rw [Zg4 z,bs,isL_gs g h1,if_neg (by decide),Za5 h,bs,all,bs,pat_holds_eq h,bs]; rfl
theorem contains_eq {a : Pat} (h : okP a) {z : Str} (g : gs z) (h1 : 1 ≤ z.length) (_ : z.length ≤ 500) : Zaw a z = some (fitB a (cl z)) := contains_any h g h1
inductive ShR : Shp → Nat → Nat → Prop
 | lf (k : Nat) : ShR (.lf k) k 1
 | nd {op : Str} {l r : Shp} {lo a b : Nat} (h : op = "&" ∨ op = "|") (hl : ShR l lo a) (hr : ShR r (lo + a) b) : ShR (.nd op l r) lo (a + b)
def Zii : Shp → Nat
 | .lf _ => 1
 | .nd _ l r => max (Zii l) (Zii r) + 1
theorem ShR.pos {s : Shp} {lo n : Nat} (h : ShR s lo n) : 1 ≤ n := by
 induction h with
 | lf k => exact Nat.le_refl _
 | nd h hl hr i j => omega
theorem ShR.dep_le {s : Shp} {lo n : Nat} (h : ShR s lo n) : Zii s ≤ n := by
 induction h with
 | lf k => exact Nat.le_refl _
 | nd h hl hr i j =>
  have := hl.pos
  have := hr.pos
  show max _ _ + 1 ≤ _
  omega
inductive Chn : List Shp → Nat → Nat → Prop
 | nil {lo : Nat} : Chn [] lo lo
 | cons {s : Shp} {l : List Shp} {lo n hi : Nat} (h : ShR s lo n) (t : Chn l (lo + n) hi) : Chn (s :: l) lo hi
theorem Chn.app {A B : List Shp} {lo mid hi : Nat} (h : Chn A lo mid) (k : Chn B mid hi) : Chn (A ++ B) lo hi := by
 induction h with
 | nil => exact k
 | cons h t ih => exact .cons h (ih k)
theorem Chn.split {B : List Shp} {hi : Nat} : ∀ {A : List Shp} {lo : Nat},Chn (A ++ B) lo hi → ∃ mid,Chn A lo mid ∧ Chn B mid hi
 | [],lo,h => ⟨lo,.nil,h⟩
 | s :: A,lo,.cons h t => by
  obtain ⟨mid,h1,h2⟩ := Chn.split t
  exact ⟨mid,.cons h h1,h2⟩
theorem shape_ok {p : Int × Int} {n : Nat} (h1 : 1 ≤ n) (h2 : n ≤ 100) : Ok (Zeb p (n : Int)) fun r => ShR r.1 0 n := by
 unfold Zeb
 refine Ok.gd (Zgy (by omega) (by omega) (by omega) (by omega)) (Ok.gd (Zfr (by rw [Zci]; omega)) ?_)
 refine Ok.bde (Zhm (fun k => Shp.lf k) fun k _ => rfl) ?_
 have start : ∀ (m lo : Nat),Chn ((rng lo ((lo + m : Nat) : Int)).map fun k => Shp.lf k) lo (lo + m) := by
  intro m
  induction m with
  | zero =>
   intro lo
   have e : rng (lo : Int) ((lo + 0 : Nat) : Int) = [] := List.eq_nil_of_length_eq_zero (by rw [Zci]; omega)
   rw [e]; exact .nil
  | succ m ih =>
   intro lo
   have e : rng (lo : Int) ((lo + (m + 1) : Nat) : Int) = (lo : Int) :: rng ((lo + 1 : Nat) : Int) ((lo + 1 + m : Nat) : Int) := by
    unfold rng
    have e1 : (((lo + (m + 1) : Nat) : Int) - (lo : Int)).toNat = m + 1 := by omega
    have e2 : (((lo + 1 + m : Nat) : Int) - ((lo + 1 : Nat) : Int)).toNat = m := by omega
    rw [e1,e2,List.range_succ_eq_map,List.map_cons,List.map_map]
    rw [show (lo : Int) + ((0 : Nat) : Int) = lo by omega]
    congr 1
    refine List.map_congr_left fun i _ => ?_
    show (lo : Int) + ((i + 1 : Nat) : Int) = ((lo + 1 : Nat) : Int) + (i : Int)
    omega
   rw [e,List.map_cons]
   have := ih (lo + 1)
   have e3 : lo + 1 + m = lo + (m + 1) := by omega
   rw [e3] at this ⊢
   exact .cons (.lf lo) this
 have s0 := start n 0
 rw [Nat.zero_add] at s0
 refine Ok.bd (Ok.wh (Q := fun s => Chn s.2 0 n ∧ s.2.length = 1) (fun s => Chn s.2 0 n ∧ 1 ≤ s.2.length ∧ s.2.length ≤ 100) (fun s => s.2.length) (fun s ⟨c,l1,l2⟩ => ?turn) fuel _ ⟨s0,?a1,?a2⟩ ?a3) fun s ⟨c,l⟩ => ?fin
 case turn =>
  unfold Zeo
  refine Ok.sm ?_
  show (decide (1 < (s.2.length : Int)) = false ∧ _) ∨ (decide (1 < (s.2.length : Int)) = true ∧ _)
  by_cases hl : 1 < s.2.length
  ·refine .inr ⟨decide_eq_true (by omega),?_⟩
   unfold Zen
   refine Ok.bd (Zb2 (by show (0 : Int) < (s.2.length : Int) - 1; omega) (by show (s.2.length : Int) - 1 < _; omega)) fun a ha => Ok.bd (Zb2 (by decide) (by decide)) fun o ho => ?_
   have ha2 : a.1 < (s.2.length : Int) - 1 := ha.2
   have op : ∃ z,atI [("&" : Str),("|" : Str)] o.1 = some z ∧ (z = "&" ∨ z = "|") := by
    have : o.1 = 0 ∨ o.1 = 1 := by omega
    rcases this with e | e <;> rw [e]
    ·exact ⟨_,rfl,.inl rfl⟩
    ·exact ⟨_,rfl,.inr rfl⟩
   obtain ⟨z,ez,hz⟩ := op
   have i1 : a.1.toNat < s.2.length := by omega
   have i2 : a.1.toNat + 1 < s.2.length := by omega
   have ha1 := ha.1
   have e1 : atI s.2 a.1 = some s.2[a.1.toNat] := by rw [Zej ha1 (by omega)]; exact List.getElem?_eq_getElem i1
   have e2 : atI s.2 (a.1 + 1) = some s.2[a.1.toNat + 1] := by rw [Zej (by omega) (by omega),show (a.1 + 1).toNat = a.1.toNat + 1 by omega]; exact List.getElem?_eq_getElem i2
   refine Ok.bde ez (Ok.bde e1 (Ok.bde e2 ?_))
   show Ok (gd (Zk2 (cut s.2 none (some a.1)) [Shp.nd z s.2[a.1.toNat] s.2[a.1.toNat + 1]]) _) _
   rw [Zjh _ ha.1,Zit _ (by omega),show (a.1 + 2).toNat = a.1.toNat + 2 by omega]
   have e : s.2 = s.2.take a.1.toNat ++ s.2[a.1.toNat] :: s.2[a.1.toNat + 1] :: s.2.drop (a.1.toNat + 2) := by
    conv => lhs; rw [← List.take_append_drop a.1.toNat s.2]
    rw [List.drop_eq_getElem_cons i1,List.drop_eq_getElem_cons i2]
   have lt : (s.2.take a.1.toNat).length = a.1.toNat := by rw [List.length_take]; omega
   have ld : (s.2.drop (a.1.toNat + 2)).length = s.2.length - (a.1.toNat + 2) := List.length_drop ..
   refine Ok.gd (Zis (by rw [lt,List.length_singleton]; omega)) (Ok.gd (Zis (by rw [List.length_append,lt,List.length_singleton,ld]; omega)) (Ok.sm ⟨⟨?_,?_,?_⟩,?_⟩))
   ·have c' : Chn (s.2.take a.1.toNat ++ s.2[a.1.toNat] :: s.2[a.1.toNat + 1] :: s.2.drop (a.1.toNat + 2)) 0 n := by rw [← e]; exact c
    obtain ⟨mid,c1,c2⟩ := c'.split
    cases c2 with
    | cons h t =>
     cases t with
     | cons h' t' =>
      refine (c1.app (.cons (.nd hz h h') .nil)).app ?_
      rw [← Nat.add_assoc]
      exact t'
   ·show 1 ≤ (s.2.take a.1.toNat ++ [_] ++ s.2.drop (a.1.toNat + 2)).length
    rw [List.length_append,List.length_append,lt,List.length_singleton]; omega
   ·show (s.2.take a.1.toNat ++ [_] ++ s.2.drop (a.1.toNat + 2)).length ≤ 100
    rw [List.length_append,List.length_append,lt,List.length_singleton,ld]; omega
   ·show (s.2.take a.1.toNat ++ [_] ++ s.2.drop (a.1.toNat + 2)).length < s.2.length
    rw [List.length_append,List.length_append,lt,List.length_singleton,ld]; omega
  ·exact .inl ⟨decide_eq_false (by omega),c,show s.2.length = 1 by omega⟩
 case a1 =>
  show 1 ≤ ((rng 0 (n : Int)).map _).length
  rw [List.length_map,Zci]
  omega
 case a2 =>
  show ((rng 0 (n : Int)).map _).length ≤ 100
  rw [List.length_map,Zci]; omega
 case a3 =>
  unfold fuel
  show ((rng 0 (n : Int)).map _).length < 1000000000
  rw [List.length_map,Zci]
  have : ((n : Int) - 0).toNat = n := by omega
  rw [this]
  omega
 case fin =>
  obtain ⟨x,hx⟩ := List.length_eq_one_iff.mp l
  refine Ok.bde (a := x) (by rw [hx]; rfl) (Ok.sm ?_)
  rw [hx] at c
  cases c with
  | cons h t =>
   cases t
   rw [Nat.zero_add] at *
   exact h
def Zav (fs : List (List Str)) : Shp → Pat
 | .lf k => .form ((fs[k.toNat]?).getD [])
 | .nd op l r => if op = "&" then .both (Zav fs l) (Zav fs r) else .either (Zav fs l) (Zav fs r)
theorem Zda {fs : List (List Str)} {s : Shp} {lo n : Nat} (h : ShR s lo n) (hl : lo + n ≤ fs.length) : (Zav fs s).forms = (fs.drop lo).take n := by
 induction h with
 | lf k =>
  show [(fs[(k : Int).toNat]?).getD []] = _
  rw [Int.toNat_natCast,List.getElem?_eq_getElem (by omega),List.drop_eq_getElem_cons (by omega)]
  rfl
 | @nd op l r lo a b h hl' hr i j =>
  have e : (Zav fs (.nd op l r)).forms = (Zav fs l).forms ++ (Zav fs r).forms := by
   show (if op = "&" then Pat.both (Zav fs l) (Zav fs r) else .either (Zav fs l) (Zav fs r)).forms = _
   split <;> rfl
  rw [e,i (by omega),j (by omega),List.take_add,List.drop_drop]
theorem patSh_ht {fs : List (List Str)} {s : Shp} {lo n : Nat} (h : ShR s lo n) : (Zav fs s).ht + 1 ≤ n := by
 induction h with
 | lf k => exact Nat.le_refl _
 | @nd op l r lo a b h hl hr i j =>
  have e : (Zav fs (.nd op l r)).ht = max (Zav fs l).ht (Zav fs r).ht + 1 := by
   show (if op = "&" then Pat.both (Zav fs l) (Zav fs r) else .either (Zav fs l) (Zav fs r)).ht = _
   split <;> rfl
  rw [e]; omega
theorem Zhc {fs : List (List Str)} (hf : ∀ ps ∈ fs,alw ps ∧ 1 ≤ ps.length ∧ ps.length ≤ 4) {s : Shp} {lo n : Nat} (h : ShR s lo n) (hl : lo + n ≤ fs.length) (hn : n ≤ 4) : okP (Zav fs s) := by
 have e := Zda h hl
 have ht := patSh_ht (fs := fs) h
 refine ⟨by omega,fun ps hp => ?_,?_⟩
 ·rw [e] at hp
  exact hf ps (List.mem_of_mem_drop (List.mem_of_mem_take hp))
 ·rw [e,List.length_take]; omega
theorem Zka : ("|" : Str) ≠ "&" := by decide +kernel
theorem built_eq12 {fs : List (List Str)} (hf : ∀ ps ∈ fs,alw ps ∧ 1 ≤ ps.length ∧ ps.length ≤ 4) {s : Shp} {lo n : Nat} (h : ShR s lo n) (hl : lo + n ≤ fs.length) (hn : n ≤ 3) (hfl : fs.length ≤ 100) : ∀ m,Zii s ≤ m → Zca m s fs = some (Zav fs s) := by
 induction h with
 | lf k =>
  intro m hm
  obtain ⟨m,rfl⟩ : ∃ q,m = q + 1 := ⟨m - 1,by have : 1 ≤ m := hm; omega⟩
  show (if decide ((1 : Int) = 1) = true then (some (k : Int)).bind _ else _) = _
  rw [Zcg rfl,bs,Zej (by omega) (by omega),Int.toNat_natCast,List.getElem?_eq_getElem (by omega),bs]
  show _ = some (Pat.form ((fs[(k : Int).toNat]?).getD []))
  rw [Int.toNat_natCast,List.getElem?_eq_getElem (by omega)]
  rfl
 | @nd op l r lo a b h hl' hr i j =>
  intro m hm
  have hd : max (Zii l) (Zii r) + 1 ≤ m := hm
  have pa := hl'.pos
  have pb := hr.pos
  obtain ⟨m,rfl⟩ : ∃ q,m = q + 1 := ⟨m - 1,by omega⟩
  show (if decide ((3 : Int) = 1) = true then _ else (some l).bind _) = _
  rw [Zbb (by decide),bs,i (by omega) (by omega) m (by omega),bs]
  show ((some r).bind _) = _
  rw [bs,j (by omega) (by omega) m (by omega),bs]
  show ((some op).bind _) = _
  rw [bs]
  have o1 := Zhc hf hl' (by omega) (by omega)
  have o2 := Zhc hf hr (by omega) (by omega)
  have l1 : (Zav fs l).forms.length = a := by rw [Zda hl' (by omega),List.length_take,List.length_drop]; omega
  have l2 : (Zav fs r).forms.length = b := by rw [Zda hr (by omega),List.length_take,List.length_drop]; omega
  show _ = some (if op = "&" then Pat.both (Zav fs l) (Zav fs r) else .either (Zav fs l) (Zav fs r))
  rcases h with e | e
  ·rw [Zcg e,if_pos e]
   unfold Zaz Zbn
   rw [Za5 o1,bs,Za5 o2,bs,Zbb (by omega),bs,bs]
  ·rw [Zbb (by rw [e]; exact Zka),if_neg (by rw [e]; exact Zka)]
   unfold Za2 Za8
   rw [Za5 o1,bs,Za5 o2,bs,Zbb (by omega),bs,bs]
theorem holds_sh {fs : List (List Str)} (F : List Str → Bool) {s : Shp} {lo n : Nat} (h : ShR s lo n) (hl : lo + n ≤ fs.length) : ∀ m,Zii s ≤ m → Zcs m s (fs.map F) = some (evP F (Zav fs s)) := by
 induction h with
 | lf k =>
  intro m hm
  obtain ⟨m,rfl⟩ : ∃ q,m = q + 1 := ⟨m - 1,by have : 1 ≤ m := hm; omega⟩
  show (if decide ((1 : Int) = 1) = true then (some (k : Int)).bind _ else _) = _
  rw [Zcg rfl,bs,Zej (by omega) (by rw [List.length_map]; omega),Int.toNat_natCast,List.getElem?_map,List.getElem?_eq_getElem (by omega)]
  show (some (F fs[k])).bind _ = some (F ((fs[(k : Int).toNat]?).getD []))
  rw [bs,Int.toNat_natCast,List.getElem?_eq_getElem (by omega)]
  rfl
 | @nd op l r lo a b h hl' hr i j =>
  intro m hm
  have hd : max (Zii l) (Zii r) + 1 ≤ m := hm
  obtain ⟨m,rfl⟩ : ∃ q,m = q + 1 := ⟨m - 1,by omega⟩
  show (if decide ((3 : Int) = 1) = true then _ else (some l).bind _) = _
  rw [Zbb (by decide),bs,i (by omega) m (by omega),bs]
  show ((some r).bind _) = _
  rw [bs,j (by omega) m (by omega),bs]
  show ((some op).bind _) = _
  rw [bs]
  show _ = some (evP F (if op = "&" then Pat.both (Zav fs l) (Zav fs r) else .either (Zav fs l) (Zav fs r)))
  rcases h with e | e
  ·rw [Zcg e,if_pos e]; rfl
  ·rw [Zbb (by rw [e]; exact Zka),if_neg (by rw [e]; exact Zka)]; rfl
def lw (s : Str) (n : Nat) : Prop := (∀ c ∈ cl s,c < 1114112) ∧ (cl s).length ≤ n
theorem ok_lw {s : Str} (h : okS s) : ∀ c ∈ cl s,c < 1114112 := by
 intro c hc
 have k : (s.cps.all (· < 0x110000)) = true := h
 rw [Array.all_eq_true_iff_forall_mem] at k
 exact of_decide_eq_true (k c (Array.mem_toList_iff.mp hc))
theorem lw_app {s t : Str} {n m : Nat} (h : lw s n) (k : lw t m) : lw (s ++ t) (n + m) := by
 refine ⟨fun c hc => ?_,?_⟩
 ·rw [Zjj,List.mem_append] at hc
  exact hc.elim (h.1 c) (k.1 c)
 ·rw [Zjj,List.length_append]
  exact Nat.add_le_add h.2 k.2
def pTxt : Pat → Str
 | .form ps => Txt.join ("" : Str) ps
 | .both l r => Zed (" & " : Str) (pTxt l) (pTxt r)
 | .either l r => Zed (" | " : Str) (pTxt l) (pTxt r)
theorem e0len : ("" : Str).length = 0 := by decide +kernel
theorem join_lw {ps : List Str} (h : ∀ p ∈ ps,part p) (hl : ps.length ≤ 4) : Zj6 ("" : Str) ps = true ∧ lw (Txt.join ("" : Str) ps) 32 := by
 have fl : ∀ {qs : List Str},(∀ p ∈ qs,part p) → (qs.flatMap cl).length ≤ 8 * qs.length ∧ (qs.map (·.length)).sum ≤ 8 * qs.length := fun {qs} h => by
  induction qs with
  | nil => exact ⟨Nat.le_refl _,Nat.le_refl _⟩
  | cons q qs ih =>
   obtain ⟨i1,i2⟩ := ih fun p hp => h p (List.mem_cons_of_mem _ hp)
   have := Zhd (h q List.mem_cons_self)
   rw [List.flatMap_cons,List.length_append,List.map_cons,List.sum_cons,List.length_cons,← Zas]
   omega
 obtain ⟨f1,f2⟩ := fl h
 refine ⟨decide_eq_true (by rw [e0len]; omega),fun c hc => ?_,?_⟩
 ·rw [Zky] at hc
  obtain ⟨p,hp,hc⟩ := List.mem_flatMap.mp hc
  exact ok_lw (part_ok (h p hp)) c hc
 ·rw [Zky]; omega
theorem joinP_lw {m s t : Str} {a b : Nat} (hm : lw m 3) (hs : lw s a) (ht : lw t b) (hab : a + b ≤ 1000) : Zet m s t = true ∧ lw (Zed m s t) (a + b + 5) := by
 have c1 : lw ("(" : Str) 1 := ⟨by decide +kernel,by decide +kernel⟩
 have c2 : lw (")" : Str) 1 := ⟨by decide +kernel,by decide +kernel⟩
 have c0 : lw Str.empty 0 := ⟨(fun c hc => nomatch hc),Nat.le_refl _⟩
 have k := lw_app (lw_app (lw_app (lw_app (lw_app c0 c1) hs) hm) ht) c2
 have k2 : lw (Zed m s t) (a + b + 5) := ⟨k.1,Nat.le_trans k.2 (by omega)⟩
 have z : ∀ {u : Str} {n : Nat},lw u n → n ≤ 2000 → u.length ≤ sizeLine := fun {u n} h hn => by
  rw [sizeLine_eq,Zas]; have := h.2; omega
 refine ⟨?_,k2⟩
 unfold Zet
 rw [decide_eq_true (z hs (by omega)),decide_eq_true (z ht (by omega)),decide_eq_true (z k2 (by omega))]
 rfl
theorem amp3 : lw (" & " : Str) 3 ∧ lw (" | " : Str) 3 := ⟨⟨by decide +kernel,by decide +kernel⟩,⟨by decide +kernel,by decide +kernel⟩⟩
theorem Zf7 : ∀ {P : Pat},(∀ ps ∈ P.forms,alw ps ∧ 1 ≤ ps.length ∧ ps.length ≤ 4) → P.forms.length ≤ 16 → P.str = some (pTxt P) ∧ lw (pTxt P) (37 * P.forms.length - 5)
 | .form ps,h,_ => by
  obtain ⟨a,b,c⟩ := h ps (List.mem_singleton.mpr rfl)
  obtain ⟨j1,j2⟩ := join_lw (Zcf a) c
  refine ⟨?_,j2⟩
  show gd (Zj6 ("" : Str) ps) _ = _
  rw [Zao j1]; rfl
 | .both l r,h,hl => by
  have e : (Pat.both l r).forms.length = l.forms.length + r.forms.length := List.length_append
  obtain ⟨i1,i2⟩ := Zf7 (P := l) (fun ps hp => h ps (List.mem_append_left _ hp)) (by omega)
  obtain ⟨j1,j2⟩ := Zf7 (P := r) (fun ps hp => h ps (List.mem_append_right _ hp)) (by omega)
  have n1 := Zgo l
  have n2 := Zgo r
  obtain ⟨k1,k2⟩ := joinP_lw amp3.1 i2 j2 (by omega)
  refine ⟨?_,k2.1,?_⟩
  ·show (l.str.bind fun x => r.str.bind fun y => gd (Zet (" & " : Str) x y) (some (Zed (" & " : Str) x y))) = _
   rw [i1,bs,j1,bs,Zao k1]; rfl
  ·have : (cl (pTxt (.both l r))).length ≤ _ := k2.2
   rw [e]; omega
 | .either l r,h,hl => by
  have e : (Pat.either l r).forms.length = l.forms.length + r.forms.length := List.length_append
  obtain ⟨i1,i2⟩ := Zf7 (P := l) (fun ps hp => h ps (List.mem_append_left _ hp)) (by omega)
  obtain ⟨j1,j2⟩ := Zf7 (P := r) (fun ps hp => h ps (List.mem_append_right _ hp)) (by omega)
  have n1 := Zgo l
  have n2 := Zgo r
  obtain ⟨k1,k2⟩ := joinP_lw amp3.2 i2 j2 (by omega)
  refine ⟨?_,k2.1,?_⟩
  ·show (l.str.bind fun x => r.str.bind fun y => gd (Zet (" | " : Str) x y) (some (Zed (" | " : Str) x y))) = _
   rw [i1,bs,j1,bs,Zao k1]; rfl
  ·have : (cl (pTxt (.either l r))).length ≤ _ := k2.2
   rw [e]; omega
theorem str_eq {P : Pat} (h : okP P) : Zdy P = some (pTxt P) := (Zb8 h.ht h.few).trans (Zf7 h.fs h.few).1
theorem cl_amp : cl (" & " : Str) = cl (" " : Str) ++ cl ("&" : Str) ++ cl (" " : Str) ∧ cl (" | " : Str) = cl (" " : Str) ++ cl ("|" : Str) ++ cl (" " : Str) := by decide +kernel
theorem shown_eq {fs : List (List Str)} (hf : ∀ ps ∈ fs,alw ps ∧ 1 ≤ ps.length ∧ ps.length ≤ 4) {s : Shp} {lo n : Nat} (h : ShR s lo n) (hl : lo + n ≤ fs.length) (hn : n ≤ 4) : ∀ m,Zii s ≤ m → Zcr m s fs = some (pTxt (Zav fs s)) := by
 induction h with
 | lf k =>
  intro m hm
  obtain ⟨m,rfl⟩ : ∃ q,m = q + 1 := ⟨m - 1,by have : 1 ≤ m := hm; omega⟩
  show (if decide ((1 : Int) = 1) = true then (some (k : Int)).bind _ else _) = _
  rw [Zcg rfl,bs,Zej (by omega) (by omega),Int.toNat_natCast,List.getElem?_eq_getElem (by omega),bs]
  obtain ⟨a,b,c⟩ := hf fs[k] (List.getElem_mem (by omega))
  rw [Zao (join_lw (Zcf a) c).1]
  show _ = some (Txt.join ("" : Str) ((fs[(k : Int).toNat]?).getD []))
  rw [Int.toNat_natCast,List.getElem?_eq_getElem (by omega)]
  rfl
 | @nd op l r lo a b h hl' hr i j =>
  intro m hm
  have hd : max (Zii l) (Zii r) + 1 ≤ m := hm
  have pa := hl'.pos
  have pb := hr.pos
  obtain ⟨m,rfl⟩ : ∃ q,m = q + 1 := ⟨m - 1,by omega⟩
  show (if decide ((3 : Int) = 1) = true then _ else (some l).bind _) = _
  rw [Zbb (by decide),bs,i (by omega) (by omega) m (by omega),bs]
  have o1 := Zhc hf hl' (by omega) (by omega)
  have o2 := Zhc hf hr (by omega) (by omega)
  have f1 : (Zav fs l).forms.length = a := by rw [Zda hl' (by omega),List.length_take,List.length_drop]; omega
  have f2 : (Zav fs r).forms.length = b := by rw [Zda hr (by omega),List.length_take,List.length_drop]; omega
  have w1 := (Zf7 o1.fs o1.few).2.2
  have w2 := (Zf7 o2.fs o2.few).2.2
  rw [f1,← Zas] at w1
  rw [f2,← Zas] at w2
  generalize hx : pTxt (Zav fs l) = X at *
  generalize hy : pTxt (Zav fs r) = Y at *
  have q1 : ("(" : Str).length = 1 := by decide +kernel
  have q2 : (" " : Str).length = 1 := by decide +kernel
  have q3 : (")" : Str).length = 1 := by decide +kernel
  have q4 : op.length = 1 := by rcases h with e | e <;> rw [e] <;> decide +kernel
  have L : ∀ {s t : Str},s.length + t.length ≤ 16000000 → Zee s t = true := fun h => Zdg h
  rw [Zao (L (by omega)),Zao (L (by rw [Zba]; omega))]
  show ((some op).bind _) = _
  rw [bs,Zao (L (by rw [Zba,Zba]; omega)),Zao (L (by rw [Zba,Zba,Zba]; omega))]
  show ((some r).bind _) = _
  rw [bs,j (by omega) (by omega) m (by omega),bs,Zao (L (by rw [Zba,Zba,Zba,Zba]; omega)),Zao (L (by rw [Zba,Zba,Zba,Zba,Zba]; omega))]
  congr 1
  show _ = pTxt (if op = "&" then Pat.both (Zav fs l) (Zav fs r) else .either (Zav fs l) (Zav fs r))
  rcases h with e | e
  ·rw [if_pos e,e]
   show _ = Zed (" & " : Str) (pTxt (Zav fs l)) (pTxt (Zav fs r))
   rw [hx,hy]
   refine Zhn ?_
   unfold Zed
   simp only [Zjj,cl_amp.1,List.append_assoc]
   rfl
  ·rw [if_neg (by rw [e]; exact Zka),e]
   show _ = Zed (" | " : Str) (pTxt (Zav fs l)) (pTxt (Zav fs r))
   rw [hx,hy]
   refine Zhn ?_
   unfold Zed
   simp only [Zjj,cl_amp.2,List.append_assoc]
   rfl
theorem cls_and {fs : List (List Str)} {s : Shp} {lo n : Nat} (h : ShR s lo n) : decide ((Zav fs s).cls = "Both") = s.isOp "&" ∧ decide ((Zav fs s).cls = "Either") = s.isOp "|" ∧ shOkS s = true := by
 have d1 : ("Form" : Str) ≠ "Both" ∧ ("Form" : Str) ≠ "Either" ∧ ("Both" : Str) ≠ "Either" ∧ ("Either" : Str) ≠ "Both" := by decide +kernel
 cases h with
 | lf k =>
  refine ⟨?_,?_,rfl⟩
  ·show decide (("Form" : Str) = "Both") = decide ((none : Option Str) = some "&")
   rw [decide_eq_false d1.1]; rfl
  ·show decide (("Form" : Str) = "Either") = decide ((none : Option Str) = some "|")
   rw [decide_eq_false d1.2.1]; rfl
 | @nd op l r lo a b h hl hr =>
  have e : (Zav fs (.nd op l r)).cls = if op = "&" then "Both" else "Either" := by
   show (if op = "&" then Pat.both (Zav fs l) (Zav fs r) else .either (Zav fs l) (Zav fs r)).cls = _
   split <;> rfl
  rw [e]
  rcases h with z | z
  ·subst z
   rw [if_pos rfl]
   refine ⟨?_,?_,?_⟩
   ·rw [decide_eq_true rfl]
    show true = decide ((some "&" : Option Str) = some "&")
    decide +kernel
   ·rw [decide_eq_false d1.2.2.1]
    show false = decide ((some "&" : Option Str) = some "|")
    decide +kernel
   ·show SeqAt.shaped (PyData.str "&") = true
    decide +kernel
  ·subst z
   rw [if_neg Zka]
   refine ⟨?_,?_,?_⟩
   ·rw [decide_eq_false d1.2.2.2]
    show false = decide ((some "|" : Option Str) = some "&")
    decide +kernel
   ·rw [decide_eq_true rfl]
    show true = decide ((some "|" : Option Str) = some "|")
    decide +kernel
   ·show SeqAt.shaped (PyData.str "|") = true
    decide +kernel
theorem Zk4 (a : Pat) : Zaw a "" = some false := by
 unfold Zaw
 rw [Zg4,bs,show isL "" = false by decide +kernel]
 rfl
open Classical in
noncomputable def fitG (w : List Nat) (ps : List Str) : Bool := decide (Mt (Za7 ps) w)
theorem Zgp : ∀ a : Pat,evP (fun _ => false) a = false
 | .form _ => rfl
 | .both l r => by show (evP _ l && evP _ r) = false; rw [Zgp l]; rfl
 | .either l r => by show (evP _ l || evP _ r) = false; rw [Zgp l,Zgp r]; rfl
open Classical in
theorem fits_any {ps : List Str} (h : alw ps) {z : Str} (hz : z.length ≤ 500) : Zd2 ps z = some (if z = "" then false else fitG (cl z) ps) := by
 rw [fits_eq (by omega) fun c hc => by have := Zhd (Zcf h c hc); omega]
 by_cases e : z = ""
 ·rw [if_pos e,decide_eq_false fun q => q.1 e]
 ·rw [if_neg e]
  unfold fitG
  congr 1
  rw [decide_eq_decide,Mt_cells (Zcf h)]
  exact ⟨fun q => q.2,fun q => ⟨e,q⟩⟩
theorem eq_pat {P R : Pat} (h : okP P) (k : okP R) : Zbc P R = some (decide (pTxt P = pTxt R)) := by
 unfold Zbc
 rw [str_eq h,bs,str_eq k,bs]
theorem comp_all5 {α β S : Type} {f : α → S → Option (Option β × S)} {P : β → Prop} : ∀ {xs : List α} {s : S},(∀ x ∈ xs,∀ s,Ok (f x s) fun o => ∃ y,o.1 = some y ∧ P y) → Ok (comp f xs s) fun r => r.1.length = xs.length ∧ ∀ y ∈ r.1,P y
 | [],s,_ => Ok.sm ⟨rfl,fun y hy => absurd hy List.not_mem_nil⟩
 | x :: xs,s,h => by
  show Ok ((f x s).bind _) _
  refine Ok.bd (h x List.mem_cons_self s) fun o ⟨y,ho,hy⟩ => Ok.bd (comp_all5 fun z hz => h z (List.mem_cons_of_mem _ hz)) fun r ⟨hl,hr⟩ => ?_
  rw [ho]
  refine Ok.sm ⟨by show (y :: r.1).length = _; rw [List.length_cons,hl,List.length_cons],fun z hz => ?_⟩
  rcases List.mem_cons.mp hz with rfl | hz
  ·exact hy
  ·exact hr z hz
section
abbrev idV {α : Type} (x : Id α) : α := x
open StrLaws in
theorem occ_cnt (x : Str) (c lim : Nat) : ∀ (l : List Nat) (st : Array Nat × Nat),(idV (forIn l st (occBody x ⟨#[c]⟩ x.length lim))).fst.size ≤ st.fst.size + (l.filter fun i => decide ((cl x)[i]? = some c)).length
 | [],st => Nat.le_refl _
 | a :: l,st => by
  rw [List.forIn_cons]
  unfold occBody
  split
  ·rename_i hc
   have := occ_cnt x c lim l (st.fst.push a,a + (⟨#[c]⟩ : Str).length)
   have e : (cl x)[a]? = some c := (subAt_one x c a).mp ⟨hc.1.2,hc.2⟩
   rw [List.filter_cons_of_pos (by exact decide_eq_true e),List.length_cons]
   simp only [Array.size_push] at this
   have h2 : (idV (forIn l (st.fst.push a,a + (⟨#[c]⟩ : Str).length) (occBody x ⟨#[c]⟩ x.length lim))).fst.size ≤ st.fst.size + ((l.filter fun i => decide ((cl x)[i]? = some c)).length + 1) := by omega
   exact h2
  ·have := occ_cnt x c lim l (st.fst,st.snd)
   have h3 : (l.filter fun i => decide ((cl x)[i]? = some c)).length ≤ ((a :: l).filter fun i => decide ((cl x)[i]? = some c)).length := by
    rw [List.filter_cons]
    split
    ·rw [List.length_cons]; omega
    ·exact Nat.le_refl _
   have h2 : (idV (forIn l (st.fst,st.snd) (occBody x ⟨#[c]⟩ x.length lim))).fst.size ≤ st.fst.size + ((a :: l).filter fun i => decide ((cl x)[i]? = some c)).length := Nat.le_trans this (Nat.add_le_add_left h3 _)
   exact h2
theorem range_cnt (w : List Nat) (c : Nat) : ∀ (m lo : Nat),((List.range' lo m).filter fun i => decide (w[i]? = some c)).length ≤ (w.drop lo).count c
 | 0,lo => Nat.zero_le _
 | m + 1,lo => by
  have ih := range_cnt w c m (lo + 1)
  rw [List.range'_succ,List.filter_cons]
  by_cases h : lo < w.length
  ·rw [List.drop_eq_getElem_cons h,List.count_cons,List.getElem?_eq_getElem h]
   by_cases e : w[lo] = c
   ·rw [if_pos (by rw [e]; exact decide_eq_true rfl),List.length_cons,if_pos (by rw [e]; exact beq_self_eq_true c)]; omega
   ·rw [if_neg (fun z => e (Option.some.inj (of_decide_eq_true z)))]
    omega
  ·rw [List.getElem?_eq_none (by omega),if_neg (fun z => by cases of_decide_eq_true z)]
   have e1 : w.drop (lo + 1) = [] := List.drop_eq_nil_of_le (by omega)
   have e2 : w.drop lo = [] := List.drop_eq_nil_of_le (by omega)
   rw [e1] at ih
   rw [e2]
   exact ih
theorem count_le (x : Str) (c : Nat) : Txt.count x ⟨#[c]⟩ ≤ ((cl x).count c : Nat) := by
 unfold Txt.count
 rw [StrLaws.occ_eq,Array.length_toList]
 have h1 := occ_cnt x c (x.length + 1) (List.range' 0 (x.length + 1 - 0)) (#[],0)
 have h2 := range_cnt (cl x) c (x.length + 1 - 0) 0
 rw [List.drop_zero] at h2
 have h3 : ((#[] : Array Nat),0).fst.size = 0 := rfl
 rw [h3,Nat.zero_add] at h1
 exact Int.ofNat_le.mpr (Nat.le_trans h1 h2)
def enF : Nat → List Nat → List (Int × Str)
 | _,[] => []
 | k,c :: w => ((k : Int),⟨#[c]⟩) :: enF (k + 1) w
theorem Zk3 : ∀ (u v : List Nat) (k : Nat),enF k (u ++ v) = enF k u ++ enF (k + u.length) v
 | [],v,k => rfl
 | c :: u,v,k => by
  show _ :: enF (k + 1) (u ++ v) = _ :: (enF (k + 1) u ++ enF (k + (u.length + 1)) v)
  rw [Zk3 u v (k + 1),show k + 1 + u.length = k + (u.length + 1) by omega]
theorem enF_len : ∀ (w : List Nat) (k : Nat),(enF k w).length = w.length
 | [],_ => rfl
 | c :: w,k => by show (enF (k + 1) w).length + 1 = w.length + 1; rw [enF_len w]
theorem enF_at : ∀ (w : List Nat) (k i c : Nat),w[i]? = some c → (enF k w)[i]? = some (((k + i : Nat) : Int),⟨#[c]⟩)
 | [],_,_,_,h => by simp at h
 | d :: w,k,0,c,h => by cases h; rfl
 | d :: w,k,i + 1,c,h => by
  have := enF_at w (k + 1) i c h
  rw [show k + 1 + i = k + (i + 1) by omega] at this
  exact this
theorem enum_enF (z : Str) : enumI (sgns z) = enF 0 (cl z) := by
 refine List.ext_getElem? fun i => ?_
 by_cases h : i < (cl z).length
 ·have e : z.cps[i]? = some (cl z)[i] := by
   have := List.getElem?_eq_getElem h
   rw [← this]; exact Array.getElem?_toList.symm
  rw [enF_at (cl z) 0 i _ (List.getElem?_eq_getElem h),Nat.zero_add]
  exact enumI_at (sgns_at e)
 ·rw [List.getElem?_eq_none (by rw [enumI_len]; unfold sgns; rw [List.length_map]; exact Nat.le_of_not_lt h),List.getElem?_eq_none (by rw [enF_len]; exact Nat.le_of_not_lt h)]
theorem Zhk {α S : Type} {f : α → S → Option S} : ∀ (xs ys : List α) (s : S),Zbt f (xs ++ ys) s = (Zbt f xs s).bind fun s' => Zbt f ys s'
 | [],ys,s => rfl
 | x :: xs,ys,s => by
  show (f x s).bind (fun s' => Zbt f (xs ++ ys) s') = ((f x s).bind fun s' => Zbt f xs s').bind _
  cases f x s with
  | none => rfl
  | some s' => exact Zhk xs ys s'
def flat (w : List Nat) : Prop := ∀ c ∈ w,c ≠ 40 ∧ c ≠ 41 ∧ c ≠ 38 ∧ c ≠ 124
theorem one_str {c d : Nat} : (⟨#[c]⟩ : Str) = ⟨#[d]⟩ ↔ c = d := by
 constructor
 ·intro h
  have := congrArg cl h
  exact (List.cons.inj (show [c] = [d] from this)).1
 ·rintro rfl; rfl
theorem lit_signs : ("(" : Str) = ⟨#[40]⟩ ∧ (")" : Str) = ⟨#[41]⟩ ∧ cl ("&|" : Str) = [38,124] ∧ ("&" : Str) = ⟨#[38]⟩ ∧ ("|" : Str) = ⟨#[124]⟩ ∧ (" " : Str) = ⟨#[32]⟩ := by decide +kernel
theorem mid_b1 {k : Int} {c : Nat} {s : List Int × Int} (hf : s.1.length ≤ 1000) : Zau (k,⟨#[c]⟩) s = some (if c = 40 then (s.1,s.2 + 1) else if c = 41 then (s.1,s.2 - 1) else if (c = 38 ∨ c = 124) ∧ s.2 = 0 then (s.1 ++ [k],s.2) else (s.1,s.2)) := by
 unfold Zau
 dsimp only
 rw [lit_signs.1,lit_signs.2.1]
 by_cases e1 : c = 40
 ·rw [if_pos (decide_eq_true (one_str.mpr e1)),if_pos e1]
 ·rw [if_neg (fun z => e1 (one_str.mp (of_decide_eq_true z))),if_neg e1]
  by_cases e2 : c = 41
  ·rw [if_pos (decide_eq_true (one_str.mpr e2)),if_pos e2]
  ·rw [if_neg (fun z => e2 (one_str.mp (of_decide_eq_true z))),if_neg e2,Zkz,lit_signs.2.2.1]
   have m : c ∈ ([38,124] : List Nat) ↔ c = 38 ∨ c = 124 := by simp
   by_cases e3 : (c = 38 ∨ c = 124) ∧ s.2 = 0
   ·rw [if_pos e3,if_pos (by rw [Bool.and_eq_true]; exact ⟨decide_eq_true (m.mpr e3.1),decide_eq_true e3.2⟩),Zao (Zdt (by omega))]
   ·rw [if_neg e3,if_neg (fun z => by
     rw [Bool.and_eq_true] at z
     exact e3 ⟨m.mp (of_decide_eq_true z.1),of_decide_eq_true z.2⟩)]
theorem mid_flat : ∀ (w : List Nat) (k : Nat) (s : List Int × Int),flat w → s.1.length ≤ 1000 → Zbt Zau (enF k w) s = some s
 | [],k,s,_,_ => rfl
 | c :: w,k,s,h,hf => by
  obtain ⟨h1,h2,h3,h4⟩ := h c List.mem_cons_self
  show (Zau ((k : Int),⟨#[c]⟩) s).bind _ = _
  rw [mid_b1 hf,if_neg h1,if_neg h2,if_neg (fun z => z.1.elim h3 h4),bs]
  exact mid_flat w (k + 1) s (fun d hd => h d (List.mem_cons_of_mem _ hd)) hf
theorem Zdb {k c : Nat} {s : List Int × Int} (hf : s.1.length ≤ 1000) : Zbt Zau (enF k [c]) s = some (if c = 40 then (s.1,s.2 + 1) else if c = 41 then (s.1,s.2 - 1) else if (c = 38 ∨ c = 124) ∧ s.2 = 0 then (s.1 ++ [(k : Int)],s.2) else (s.1,s.2)) := by
 show (Zau ((k : Int),⟨#[c]⟩) s).bind _ = _
 rw [mid_b1 hf,bs]; rfl
theorem sg_flat : flat (cl SG) ∧ flat (cl AN) ∧ flat (cl DG) ∧ flat (cl WD) := by unfold flat; decide +kernel
theorem part_flat {s : Str} (h : part s) : flat (cl s) := by
 rcases h with rfl | rfl | rfl | ⟨g,_,_⟩
 ·exact sg_flat.2.1
 ·exact sg_flat.2.2.1
 ·exact sg_flat.2.2.2
 ·exact fun c hc => sg_flat.1 c (g c hc)
theorem Zjd {ps : List Str} (h : ∀ s ∈ ps,part s) : flat (cl (Txt.join ("" : Str) ps)) := fun c hc => by
 rw [Zky] at hc
 obtain ⟨s,hs,hc⟩ := List.mem_flatMap.mp hc
 exact part_flat (h s hs) c hc
theorem Zgn {op X Y : Str} (o : Nat) (ho : cl op = [32,o,32]) : cl (Zed op X Y) = [40] ++ (cl X ++ ([32] ++ ([o] ++ ([32] ++ (cl Y ++ [41]))))) := by
 unfold Zed
 simp only [Zjj,ho]
 have e : cl Str.empty = [] ∧ cl ("(" : Str) = [40] ∧ cl (")" : Str) = [41] := by decide +kernel
 rw [e.1,e.2.1,e.2.2]
 simp only [List.nil_append,List.append_assoc,List.cons_append]
theorem op_cl : cl (" & " : Str) = [32,38,32] ∧ cl (" | " : Str) = [32,124,32] := by decide +kernel
theorem Zh1 : ∀ (P : Pat),(∀ ps ∈ P.forms,∀ s ∈ ps,part s) → ∀ (k : Nat) (s : List Int × Int),0 ≤ s.2 → s.1.length ≤ 1000 → Zbt Zau (enF k (cl (pTxt P))) s = some s
 | .form ps,h,k,s,_,hf => mid_flat _ k s (Zjd (h ps List.mem_cons_self)) hf
 | .both l r,h,k,s,h0,hf => by
  have hl := Zh1 l (fun ps hp => h ps (List.mem_append_left _ hp))
  have hr := Zh1 r (fun ps hp => h ps (List.mem_append_right _ hp))
  show Zbt Zau (enF k (cl (Zed (" & " : Str) (pTxt l) (pTxt r)))) s = some s
  rw [Zgn 38 op_cl.1]
  simp only [Zk3,Zhk]
  rw [Zdb hf,if_pos rfl,bs,hl _ (s.1,s.2 + 1) (by show 0 ≤ s.2 + 1; omega) hf,bs,Zdb (s := (s.1,s.2 + 1)) hf,if_neg (by decide),if_neg (by decide),if_neg (fun z => absurd z.1 (by decide)),bs,Zdb (s := (s.1,s.2 + 1)) hf,if_neg (by decide),if_neg (by decide),if_neg (fun z => by have : s.2 + 1 = 0 := z.2; omega),bs,
   Zdb (s := (s.1,s.2 + 1)) hf,if_neg (by decide),if_neg (by decide),if_neg (fun z => absurd z.1 (by decide)),bs,hr _ (s.1,s.2 + 1) (by show 0 ≤ s.2 + 1; omega) hf,bs,Zdb (s := (s.1,s.2 + 1)) hf,if_neg (by decide),if_pos rfl]
  show some (s.1,s.2 + 1 - 1) = some s
  rw [show s.2 + 1 - 1 = s.2 by omega]
 | .either l r,h,k,s,h0,hf => by
  have hl := Zh1 l (fun ps hp => h ps (List.mem_append_left _ hp))
  have hr := Zh1 r (fun ps hp => h ps (List.mem_append_right _ hp))
  show Zbt Zau (enF k (cl (Zed (" | " : Str) (pTxt l) (pTxt r)))) s = some s
  rw [Zgn 124 op_cl.2]
  simp only [Zk3,Zhk]
  rw [Zdb hf,if_pos rfl,bs,hl _ (s.1,s.2 + 1) (by show 0 ≤ s.2 + 1; omega) hf,bs,Zdb (s := (s.1,s.2 + 1)) hf,if_neg (by decide),if_neg (by decide),if_neg (fun z => absurd z.1 (by decide)),bs,Zdb (s := (s.1,s.2 + 1)) hf,if_neg (by decide),if_neg (by decide),if_neg (fun z => by have : s.2 + 1 = 0 := z.2; omega),bs,
   Zdb (s := (s.1,s.2 + 1)) hf,if_neg (by decide),if_neg (by decide),if_neg (fun z => absurd z.1 (by decide)),bs,hr _ (s.1,s.2 + 1) (by show 0 ≤ s.2 + 1; omega) hf,bs,Zdb (s := (s.1,s.2 + 1)) hf,if_neg (by decide),if_pos rfl]
  show some (s.1,s.2 + 1 - 1) = some s
  rw [show s.2 + 1 - 1 = s.2 by omega]
theorem middle_ok {l r : Pat} (hl : ∀ ps ∈ l.forms,∀ s ∈ ps,part s) (hr : ∀ ps ∈ r.forms,∀ s ∈ ps,part s) {z : Str} {o : Nat} (ho : o = 38 ∨ o = 124) (e : cl z = cl (pTxt l) ++ ([32] ++ ([o] ++ ([32] ++ cl (pTxt r))))) :
 Zea z = some (some (((cl (pTxt l)).length : Int) + 1)) := by
 unfold Zea
 have h0 : (([] : List Int),(0 : Int)).1.length ≤ 1000 := Nat.zero_le _
 have n1 : ∀ k : Int,([k] : List Int).length ≤ 1000 := fun _ => by show 1 ≤ 1000; decide
 have no : ∀ c : Nat,o ≠ 40 ∧ o ≠ 41 := fun _ => by rcases ho with e | e <;> rw [e] <;> decide
 have lp : Zbt Zau (enumI (sgns z)) (([] : List Int),0) = some ([(((cl (pTxt l)).length + 1 : Nat) : Int)],0) := by
  rw [enum_enF,e]
  simp only [Zk3,Zhk]
  rw [Zh1 l hl 0 (([] : List Int),(0 : Int)) (Int.le_refl _) h0,bs,Zdb h0,if_neg (by decide),if_neg (by decide),if_neg (fun z => absurd z.1 (by decide)),bs,Zdb h0,if_neg (no 0).1,if_neg (no 0).2,if_pos ⟨ho,rfl⟩,bs,
   Zdb (n1 _),if_neg (by decide),if_neg (by decide),if_neg (fun z => absurd z.1 (by decide)),bs,Zh1 r hr _ _ (Int.le_refl _) (n1 _)]
  simp
 rw [lp,bs]
 show (Option.bind (if decide ((1 : Int) = 1) = true then _ else _) _) = _
 rw [if_pos (decide_eq_true rfl)]
 show some (some (((cl (pTxt l)).length + 1 : Nat) : Int)) = _
 rw [show (((cl (pTxt l)).length + 1 : Nat) : Int) = ((cl (pTxt l)).length : Int) + 1 by omega]
theorem Zge : ∀ (P : Pat),(∀ ps ∈ P.forms,∀ s ∈ ps,part s) → (cl (pTxt P)).count 40 + 1 ≤ P.forms.length
 | .form ps,h => by
  have : (cl (pTxt (.form ps))).count 40 = 0 := List.count_eq_zero.mpr fun z => (Zjd (h ps List.mem_cons_self) 40 z).1 rfl
  rw [this]; exact Nat.le_refl _
 | .both l r,h => by
  have hl := Zge l (fun ps hp => h ps (List.mem_append_left _ hp))
  have hr := Zge r (fun ps hp => h ps (List.mem_append_right _ hp))
  show (cl (Zed (" & " : Str) (pTxt l) (pTxt r))).count 40 + 1 ≤ (l.forms ++ r.forms).length
  rw [Zgn 38 op_cl.1,List.length_append]
  simp only [List.count_append]
  have e : ([40] : List Nat).count 40 = 1 ∧ ([32] : List Nat).count 40 = 0 ∧ ([38] : List Nat).count 40 = 0 ∧ ([41] : List Nat).count 40 = 0 := by decide
  rw [e.1,e.2.1,e.2.2.1,e.2.2.2]; omega
 | .either l r,h => by
  have hl := Zge l (fun ps hp => h ps (List.mem_append_left _ hp))
  have hr := Zge r (fun ps hp => h ps (List.mem_append_right _ hp))
  show (cl (Zed (" | " : Str) (pTxt l) (pTxt r))).count 40 + 1 ≤ (l.forms ++ r.forms).length
  rw [Zgn 124 op_cl.2,List.length_append]
  simp only [List.count_append]
  have e : ([40] : List Nat).count 40 = 1 ∧ ([32] : List Nat).count 40 = 0 ∧ ([124] : List Nat).count 40 = 0 ∧ ([41] : List Nat).count 40 = 0 := by decide
  rw [e.1,e.2.1,e.2.2.1,e.2.2.2]; omega
end
section
theorem sw3 (z y : Str) (i : Nat) : Txt.startswith3 z y (i : Int) = decide (i + y.length ≤ z.length ∧ ((cl z).drop i).take y.length = cl y) := by
 unfold Txt.startswith3
 have e : PySem.fromIndex z.length (i : Int) = i := by
  unfold PySem.fromIndex
  rw [if_neg (by omega)]
  omega
 rw [e,StrLaws.subAt_eq]
 rw [Bool.eq_iff_iff,Bool.and_eq_true,decide_eq_true_eq,decide_eq_true_eq,beq_iff_eq]
 exact Iff.rfl
theorem fr_signs : (cl DG)[0]? = some 60 ∧ (cl WD)[0]? = some 60 ∧ (cl AN)[0]? = some 60 ∧ (cl DG)[1]? = some 100 ∧ (cl WD)[1]? = some 119 ∧ (cl AN)[1]? = some 97 ∧ DG.length = 8 ∧ WD.length = 6 ∧ AN.length = 5 := by decide +kernel
theorem sg60 : ¬ 60 ∈ cl SG := by decide +kernel
theorem fr_ne {s : Str} (h : fr s) : s ≠ ("" : Str) ∧ (cl s)[0]? = some 60 := by
 rcases h with rfl | rfl | rfl
 ·exact ⟨by decide +kernel,fr_signs.2.2.1⟩
 ·exact ⟨by decide +kernel,fr_signs.1⟩
 ·exact ⟨by decide +kernel,fr_signs.2.1⟩
theorem gs_nfr {s : Str} (g : gs s) : ¬ fr s := fun h => by
 have e := (fr_ne h).2
 exact sg60 (g 60 (List.mem_of_getElem? e))
theorem sw_at (e : (cl z).drop i = cl p ++ r) {y : Str} (h : Txt.startswith3 z y (i : Int) = true) (j : Nat) (hj : j < y.length) : (cl p ++ r)[j]? = (cl y)[j]? := by
 rw [sw3,decide_eq_true_eq] at h
 rw [← h.2,e,List.getElem?_take_of_lt hj]
theorem sw_self (e : (cl z).drop i = cl p ++ r) (h1 : 1 ≤ p.length) : Txt.startswith3 z p (i : Int) = true := by
 rw [sw3,decide_eq_true_eq]
 have l := congrArg List.length e
 rw [List.length_drop,List.length_append,← Zas,← Zas] at l
 refine ⟨by omega,?_⟩
 rw [e,Zas p]
 exact List.take_left' rfl
theorem Zj7 (g : Str → Bool) (f : Str → Str → Option Str) (hf : ∀ x s,f x s = if g x = true then some x else some s) : Zbt f ([DG,WD,AN] : List Str) ("" : Str) = some (if g AN = true then AN else if g WD = true then WD else if g DG = true then DG else ("" : Str)) := by
 show (f DG "").bind (fun s1 => (f WD s1).bind fun s2 => (f AN s2).bind fun s3 => some s3) = _
 cases h1 : g DG <;> cases h2 : g WD <;> cases h3 : g AN <;> simp [hf,h1,h2,h3]
theorem found_fr (e : (cl z).drop i = cl p ++ r) (h : fr p) : Zbt (Zce z (s,(i : Int))) ([DG,WD,AN] : List Str) ("" : Str) = some p := by
 rw [Zj7 (fun x => Txt.startswith3 z x (i : Int)) (Zce z (s,(i : Int))) fun x s => rfl]
 obtain ⟨a1,a2,a3,b1,b2,b3,l1,l2,l3⟩ := fr_signs
 have no : ∀ {y : Str} {c d : Nat},(cl p)[1]? = some c → (cl y)[1]? = some d → c ≠ d → 1 < y.length → ¬ Txt.startswith3 z y (i : Int) = true := fun {y c d} hc hd ne hl q => by
  have := sw_at e q 1 hl
  rw [hd,List.getElem?_append_left (List.getElem?_eq_some_iff.mp hc).1,hc] at this
  exact ne (Option.some.inj this)
 rcases h with rfl | rfl | rfl
 ·rw [if_pos (sw_self e (by omega))]
 ·rw [if_neg (no b1 b3 (by decide) (by omega)),if_neg (no b1 b2 (by decide) (by omega)),if_pos (sw_self e (by omega))]
 ·rw [if_neg (no b2 b3 (by decide) (by omega)),if_pos (sw_self e (by omega))]
theorem found_gs (e : (cl z).drop i = cl p ++ r) (g : gs p) (h1 : 1 ≤ p.length) : Zbt (Zce z (s,(i : Int))) ([DG,WD,AN] : List Str) ("" : Str) = some ("" : Str) := by
 rw [Zj7 (fun x => Txt.startswith3 z x (i : Int)) (Zce z (s,(i : Int))) fun x s => rfl]
 have hc : (cl p)[0]? = some ((cl p)[0]'(by rw [← Zas]; omega)) := List.getElem?_eq_getElem _
 have no : ∀ {y : Str},(cl y)[0]? = some 60 → 1 < y.length → ¬ Txt.startswith3 z y (i : Int) = true := fun {y} hy hl q => by
  have := sw_at e q 0 (by omega)
  rw [hy,List.getElem?_append_left (by rw [← Zas]; omega)] at this
  exact sg60 (g 60 (List.mem_of_getElem? this))
 obtain ⟨a1,a2,a3,b1,b2,b3,l1,l2,l3⟩ := fr_signs
 rw [if_neg (no a3 (by omega)),if_neg (no a2 (by omega)),if_neg (no a1 (by omega))]
theorem ix_at {k c : Nat} (hz : z.length ≤ 1000) (h : (cl z)[k]? = some c) : ixS z (k : Int) = some ⟨#[c]⟩ := by
 unfold ixS
 have hk : k < (cl z).length := (List.getElem?_eq_some_iff.mp h).1
 rw [Zao (Za1 (by omega)),Zej (by omega) (by show (k : Int) < ((cl z).length : Int); omega),Int.toNat_natCast]
 show ((cl z)[k]?).bind _ = _
 rw [h]; rfl
theorem end_fr {n : Nat} {f : Str} (hf : f ≠ ("" : Str)) : Zdh (Zaq z f) Zbg (n + 1) (i : Int) = some (i : Int) := by
 show (Zaq z f (i : Int)).bind _ = _
 unfold Zaq
 rw [if_neg (fun q => hf (of_decide_eq_true q)),bs,bs]
 rfl
theorem end_gs (hz : z.length ≤ 1000) (g : gs p) (e : (cl z).drop i = cl p ++ r) (hr : ∀ c,r[0]? = some c → c ∉ cl SG) : ∀ (j n : Nat),j ≤ p.length → p.length - j < n → Zdh (Zaq z ("" : Str)) Zbg n (((i + j : Nat) : Int)) = some (((i + p.length : Nat) : Int)) := by
 have l := congrArg List.length e
 rw [List.length_drop,List.length_append,← Zas,← Zas] at l
 have at_ : ∀ k,(cl z)[i + k]? = (cl p ++ r)[k]? := fun k => by rw [← e,List.getElem?_drop]
 intro j
 have go : ∀ (d j n : Nat),p.length - j = d → j ≤ p.length → d < n → Zdh (Zaq z ("" : Str)) Zbg n (((i + j : Nat) : Int)) = some (((i + p.length : Nat) : Int)) := by
  intro d
  induction d with
  | zero =>
   intro j n hd hj hn
   have ej : j = p.length := by omega
   subst ej
   obtain ⟨n,rfl⟩ : ∃ m,n = m + 1 := ⟨n - 1,by omega⟩
   show (Zaq z ("" : Str) (((i + p.length : Nat) : Int))).bind _ = _
   unfold Zaq
   rw [if_pos (decide_eq_true rfl),Zao (Za1 (by omega))]
   by_cases hl : i + p.length < z.length
   ·rw [if_pos (decide_eq_true (by omega))]
    have hc : (cl z)[i + p.length]? = some ((cl z)[i + p.length]'(by rw [← Zas]; omega)) := List.getElem?_eq_getElem _
    have hr0 : r[0]? = (cl z)[i + p.length]? := by rw [at_,Zas p,List.getElem?_append_right (Nat.le_refl _),Nat.sub_self]
    have nc := hr _ (hr0.trans hc)
    rw [ix_at hz hc,bs,Zkz]
    show (Option.bind (Option.bind (some (decide (_ ∈ cl SG))) _) _) = _
    rw [decide_eq_false nc]; rfl
   ·rw [if_neg (fun q => hl (by have := of_decide_eq_true q; omega))]; rfl
  | succ d ih =>
   intro j n hd hj hn
   obtain ⟨n,rfl⟩ : ∃ m,n = m + 1 := ⟨n - 1,by omega⟩
   show (Zaq z ("" : Str) (((i + j : Nat) : Int))).bind _ = _
   unfold Zaq
   have hj2 : j < (cl p).length := by rw [← Zas]; omega
   have hc : (cl z)[i + j]? = some (cl p)[j] := by rw [at_,List.getElem?_append_left hj2]; exact List.getElem?_eq_getElem hj2
   rw [if_pos (decide_eq_true rfl),Zao (Za1 (by omega)),if_pos (decide_eq_true (by omega)),ix_at hz hc,bs,Zkz]
   show (Option.bind (Option.bind (Option.bind (some (decide (_ ∈ cl SG))) _) _) _) = _
   rw [decide_eq_true (g _ (List.getElem_mem hj2))]
   show Zdh (Zaq z ("" : Str)) Zbg n (((i + j : Nat) : Int) + 1) = _
   rw [show (((i + j : Nat) : Int) + 1) = (((i + (j + 1) : Nat) : Int)) by omega]
   exact ih (j + 1) n (by omega) (by omega) (by omega)
 intro n hj hn
 exact go _ j n rfl hj hn
theorem cut_part (e : (cl z).drop i = cl p ++ r) : cutS z (some (i : Int)) (some ((i + p.length : Nat) : Int)) = p := by
 refine Zhn ?_
 have l := congrArg List.length e
 rw [List.length_drop,List.length_append,← Zas,← Zas] at l
 rw [Zfy,cut_mid (cl z) (by omega) (by omega),Int.toNat_natCast,Int.toNat_natCast,e,show i + p.length - i = p.length by omega,Zas p]
 exact List.take_left' rfl
theorem part_step {acc : List Str} (hz : z.length ≤ 1000) (ha : acc.length ≤ 100) (e : (cl z).drop i = cl p ++ r) (hp : fr p ∨ gs p ∧ 1 ≤ p.length ∧ ∀ c,r[0]? = some c → c ∉ cl SG) : Zcd z (acc,(i : Int)) = some (.nx (acc ++ [p],((i + p.length : Nat) : Int))) := by
 have l := congrArg List.length e
 rw [List.length_drop,List.length_append,← Zas,← Zas] at l
 unfold Zcd
 rcases hp with h | ⟨g,h1,hr⟩
 ·have ne := (fr_ne h).1
  rw [found_fr e h,bs]
  show (Zdh (Zaq z p) Zbg fuel (i : Int)).bind _ = _
  rw [show fuel = (fuel - 1) + 1 from rfl,end_fr ne,bs,if_neg (by rw [decide_eq_false ne,Bool.false_and]; decide),if_neg (fun q => ne (of_decide_eq_true q)),bs,Zao (Zdt (by show acc.length < _; omega)),Zao (Za1 (by omega))]
  rw [show (((i + p.length : Nat) : Int)) = (i : Int) + (p.length : Int) by omega]
 ·rw [found_gs e g h1,bs]
  show (Zdh (Zaq z ("" : Str)) Zbg fuel (i : Int)).bind _ = _
  have w := end_gs hz g e hr 0 fuel (Nat.zero_le _) (by unfold fuel; omega)
  rw [Nat.add_zero] at w
  rw [w,bs,if_neg (by rw [decide_eq_false (show ¬ (((i + p.length : Nat) : Int)) = (i : Int) by omega),Bool.and_false]; decide),if_pos (decide_eq_true rfl),Zao (Za1 (by omega)),cut_part e,bs,Zao (Zdt (by show acc.length < _; omega)),Zao (Za1 (by omega))]
  rw [show (((i + p.length : Nat) : Int)) = (i : Int) + (p.length : Int) by omega]
theorem parts_ok {ps : List Str} (h : alw ps) (h4 : ps.length ≤ 4) : Zd0 (Txt.join ("" : Str) ps) = some (some ps) := by
 have hz : (Txt.join ("" : Str) ps).length ≤ 1000 := by
  have := (join_lw (Zcf h) h4).2.2
  rw [Zas]; omega
 have ez : cl (Txt.join ("" : Str) ps) = ps.flatMap cl := Zky ps
 generalize Txt.join ("" : Str) ps = z at hz ez
 have lz : z.length = (ps.flatMap cl).length := by rw [Zas,ez]
 have go : ∀ (qs dn : List Str) (n : Nat),dn ++ qs = ps → qs.length < n → Zh5 (Zbh z) (Zcd z) n (dn,(((dn.flatMap cl).length : Nat) : Int)) = some (.nx (ps,(z.length : Int))) := by
  intro qs
  induction qs with
  | nil =>
   intro dn n e hn
   rw [List.append_nil] at e
   subst e
   obtain ⟨n,rfl⟩ : ∃ m,n = m + 1 := ⟨n - 1,by omega⟩
   show (Zbh z (dn,(((dn.flatMap cl).length : Nat) : Int))).bind _ = _
   unfold Zbh
   rw [Zao (Za1 (by omega)),bs,← lz,decide_eq_false (Int.lt_irrefl _)]
   rfl
  | cons p qs ih =>
   intro dn n e hn
   obtain ⟨n,rfl⟩ : ∃ m,n = m + 1 := ⟨n - 1,by omega⟩
   rw [List.length_cons] at hn
   have ed : (cl z).drop (dn.flatMap cl).length = cl p ++ qs.flatMap cl := by
    rw [ez,← e,List.flatMap_append,List.drop_left' rfl,List.flatMap_cons]
   have hk : ps[dn.length]? = some p := by rw [← e,List.getElem?_append_right (Nat.le_refl _),Nat.sub_self]; rfl
   have ok := h _ _ hk
   have pl := Zhd (Zcf h p (List.mem_of_getElem? hk))
   have ld := congrArg List.length ed
   rw [List.length_drop,List.length_append,← Zas,← Zas] at ld
   have ld2 := congrArg List.length e
   rw [List.length_append,List.length_cons] at ld2
   have hp : fr p ∨ gs p ∧ 1 ≤ p.length ∧ ∀ c,(qs.flatMap cl)[0]? = some c → c ∉ cl SG := by
    rcases ok with ⟨q,_⟩ | q | q | ⟨g,g1,g2,g3⟩
    ·exact .inl (.inl q)
    ·exact .inl (.inr (.inl q))
    ·exact .inl (.inr (.inr q))
    ·refine .inr ⟨g,g1,fun c hc => ?_⟩
     cases qs with
     | nil => simp at hc
     | cons q qs =>
      have hq : ps[dn.length + 1]? = some q := by rw [← e,List.getElem?_append_right (by omega),show dn.length + 1 - dn.length = 1 by omega]; rfl
      have fq : fr q := by
       rcases h _ _ hq with ⟨y,_⟩ | y | y | ⟨_,_,_,y⟩
       ·exact .inl y
       ·exact .inr (.inl y)
       ·exact .inr (.inr y)
       ·exact absurd (y p (by omega) (by rw [show dn.length + 1 - 1 = dn.length by omega]; exact hk)) (gs_nfr g)
      have f0 := (fr_ne fq).2
      rw [List.flatMap_cons,List.getElem?_append_left (List.getElem?_eq_some_iff.mp f0).1,f0] at hc
      cases hc
      exact sg60
   show (Zbh z (dn,(((dn.flatMap cl).length : Nat) : Int))).bind _ = _
   unfold Zbh
   rw [Zao (Za1 (by omega)),bs,decide_eq_true (show (((dn.flatMap cl).length : Nat) : Int) < (z.length : Int) by omega),if_pos rfl,part_step hz (by show dn.length ≤ 100; omega) ed hp,bs]
   show Zh5 (Zbh z) (Zcd z) n (dn ++ [p],((((dn.flatMap cl).length + p.length : Nat)) : Int)) = _
   have := ih (dn ++ [p]) n (by rw [List.append_assoc]; exact e) (by omega)
   rw [List.flatMap_append,List.length_append,show ([p].flatMap cl).length = p.length by rw [List.flatMap_cons,List.flatMap_nil,List.append_nil,← Zas]] at this
   exact this
 unfold Zd0
 have w := go ps [] fuel rfl (by unfold fuel; omega)
 rw [show (([] : List Str),((([] : List Str).flatMap cl).length : Int)) = (([] : List Str),(0 : Int)) from rfl] at w
 rw [w,bs]
 rfl
end
section
theorem st_with (a : Str) (c : Nat) : Txt.startswith a ⟨#[c]⟩ = decide ((cl a)[0]? = some c) := by
 unfold Txt.startswith
 have h := StrLaws.subAt_one a c 0
 rw [Bool.eq_iff_iff,Bool.and_eq_true,decide_eq_true_eq,decide_eq_true_eq]
 exact h
theorem en_with (a : Str) (c : Nat) (h1 : 1 ≤ a.length) : Txt.endswith a ⟨#[c]⟩ = decide ((cl a)[a.length - 1]? = some c) := by
 unfold Txt.endswith
 have h := StrLaws.subAt_one a c (a.length - 1)
 have e : (⟨#[c]⟩ : Str).length = 1 := rfl
 rw [e] at h ⊢
 rw [Bool.eq_iff_iff,Bool.and_eq_true,decide_eq_true_eq,decide_eq_true_eq]
 constructor
 ·exact fun q => h.mp ⟨by omega,q.2⟩
 ·exact fun q => ⟨by omega,(h.mpr q).2⟩
theorem sIx_m1 (n d : Nat) : HT.sIx n d (some (-1)) = n - 1 := by
 show (if (-1 : Int) < 0 then ((-1 : Int) + (n : Int)).toNat else min (-1 : Int).toNat n) = _
 rw [if_pos (by decide)]; omega
theorem cut_inner (c d : Nat) (M : List Nat) : cut (c :: (M ++ [d])) (some 1) (some (-1)) = M := by
 unfold cut
 rw [sIx_m1,show (1 : Int) = ((1 : Nat) : Int) from rfl,HT.sIx_nat,List.length_cons,List.length_append,List.length_singleton,show min 1 (M.length + 1 + 1) = 1 by omega,show M.length + 1 + 1 - 1 - 1 = M.length by omega]
 exact List.take_left' rfl
theorem cut_last1 (u : List Nat) (c : Nat) : cut (u ++ [c]) (some (-1)) none = [c] := by
 unfold cut
 rw [sIx_m1,HT.sIx_none,List.length_append,List.length_singleton,show u.length + 1 - 1 = u.length by omega,List.drop_left' rfl,show u.length + 1 - u.length = 1 by omega]
 rfl
theorem okP_sub {l r P : Pat} (h : okP P) (hf : P.forms = l.forms ++ r.forms) (hh : P.ht = max l.ht r.ht + 1) : okP l ∧ okP r := by
 have a := h.ht
 have b := h.few
 rw [hf,List.length_append] at b
 exact ⟨⟨by omega,fun ps hp => h.fs ps (by rw [hf]; exact List.mem_append_left _ hp),by omega⟩,⟨by omega,fun ps hp => h.fs ps (by rw [hf]; exact List.mem_append_right _ hp),by omega⟩⟩
theorem Zkv {P : Pat} (h : okP P) : ∀ ps ∈ P.forms,∀ s ∈ ps,part s := fun ps hp => Zcf (h.fs ps hp).1
theorem pTxt_len {P : Pat} (h : okP P) (h3 : P.forms.length ≤ 3) : (pTxt P).length ≤ 200 := by
 have := (Zf7 h.fs h.few).2.2
 rw [Zas]; omega
theorem join_read {l r P : Pat} {o : Nat} (hP : okP P) (h3 : P.forms.length ≤ 3) (hf : P.forms = l.forms ++ r.forms) (hh : P.ht = max l.ht r.ht + 1) (ho : o = 38 ∨ o = 124)
 (ez : cl (pTxt P) = [40] ++ (cl (pTxt l) ++ ([32] ++ ([o] ++ ([32] ++ (cl (pTxt r) ++ [41]))))))
 (hm : (if decide ((⟨#[o]⟩ : Str) = ("&" : Str)) = true then ((Zaz l r).bind fun t => some t) else ((Za2 l r).bind fun t => some t)) = some P) {n : Nat} {w : Str}
 (il : Za6 n (pTxt l) w = some l) (ir : Za6 n (pTxt r) w = some r) : Za6 (n + 1) (pTxt P) w = some P := by
 have lz := pTxt_len hP h3
 obtain ⟨okl,okr⟩ := okP_sub hP hf hh
 generalize pTxt P = z at ez lz
 have ei : cl (cutS z (some 1) (some (-1))) = cl (pTxt l) ++ ([32] ++ ([o] ++ ([32] ++ cl (pTxt r)))) := by
  rw [Zfy,ez]
  have := cut_inner 40 41 (cl (pTxt l) ++ ([32] ++ ([o] ++ ([32] ++ cl (pTxt r)))))
  simp only [List.append_assoc,List.cons_append,List.nil_append] at this ⊢
  exact this
 have md := middle_ok (Zkv okl) (Zkv okr) ho ei
 have li : (cutS z (some 1) (some (-1))).length ≤ 200 := by
  rw [Zas,ei]
  have := congrArg List.length ez
  rw [← Zas] at this
  simp only [List.length_append,List.length_cons,List.length_nil] at this ⊢
  omega
 obtain ⟨I,hI⟩ : ∃ I,cutS z (some 1) (some (-1)) = I := ⟨_,rfl⟩
 rw [hI] at ei md li
 have s40 : Txt.startswith z ("(" : Str) = true := by
  rw [lit_signs.1,st_with,ez]; rfl
 have s41 : Txt.endswith z (")" : Str) = true := by
  have l1 := congrArg List.length ez
  rw [← Zas] at l1
  simp only [List.length_append,List.length_cons,List.length_nil] at l1
  rw [lit_signs.2.1,en_with z 41 (by omega),ez,decide_eq_true_eq]
  have e2 : [40] ++ (cl (pTxt l) ++ ([32] ++ ([o] ++ ([32] ++ (cl (pTxt r) ++ [41]))))) = ([40] ++ (cl (pTxt l) ++ ([32] ++ ([o] ++ ([32] ++ cl (pTxt r)))))) ++ [41] := by simp
  rw [e2,List.getElem?_append_right (by simp only [List.length_append,List.length_cons,List.length_nil]; omega)]
  have : z.length - 1 - ([40] ++ (cl (pTxt l) ++ ([32] ++ ([o] ++ ([32] ++ cl (pTxt r)))))).length = 0 := by
   simp only [List.length_append,List.length_cons,List.length_nil]; omega
  rw [this]; rfl
 have c1 : cutS (cutS I none (some (((cl (pTxt l)).length : Int) + 1))) (some (-1)) none = (" " : Str) := by
  refine Zhn ?_
  rw [Zfy,Zfy,Zjh _ (by omega),ei,show (((cl (pTxt l)).length : Int) + 1).toNat = (cl (pTxt l)).length + 1 by omega]
  have : (cl (pTxt l) ++ ([32] ++ ([o] ++ ([32] ++ cl (pTxt r))))).take ((cl (pTxt l)).length + 1) = cl (pTxt l) ++ [32] := by
   rw [List.take_append,List.take_of_length_le (by omega),show (cl (pTxt l)).length + 1 - (cl (pTxt l)).length = 1 by omega]; rfl
  rw [this,cut_last1,lit_signs.2.2.2.2.2]; rfl
 have dr : ∀ k,(cl (pTxt l) ++ ([32] ++ ([o] ++ ([32] ++ cl (pTxt r))))).drop ((cl (pTxt l)).length + k) = ([32] ++ ([o] ++ ([32] ++ cl (pTxt r)))).drop k := fun k => by
  rw [List.drop_append,List.drop_of_length_le (by omega),List.nil_append,show (cl (pTxt l)).length + k - (cl (pTxt l)).length = k by omega]
 have c2 : cutS I (some ((((cl (pTxt l)).length : Int) + 1) + 1)) (some ((((cl (pTxt l)).length : Int) + 1) + 2)) = (" " : Str) := by
  refine Zhn ?_
  rw [Zfy,cut_mid (cl I) (by omega) (by omega),ei,show ((((cl (pTxt l)).length : Int) + 1) + 1).toNat = (cl (pTxt l)).length + 2 by omega,show ((((cl (pTxt l)).length : Int) + 1) + 2).toNat - ((cl (pTxt l)).length + 2) = 1 by omega,dr,lit_signs.2.2.2.2.2]
  rfl
 have c3 : cutS I none (some ((((cl (pTxt l)).length : Int) + 1) - 1)) = pTxt l := by
  refine Zhn ?_
  rw [Zfy,Zjh _ (by omega),ei,show ((((cl (pTxt l)).length : Int) + 1) - 1).toNat = (cl (pTxt l)).length by omega]
  exact List.take_left' rfl
 have c4 : cutS I (some ((((cl (pTxt l)).length : Int) + 1) + 2)) none = pTxt r := by
  refine Zhn ?_
  rw [Zfy,Zit _ (by omega),ei,show ((((cl (pTxt l)).length : Int) + 1) + 2).toNat = (cl (pTxt l)).length + 3 by omega,dr]
  rfl
 have c5 : ixS I (((cl (pTxt l)).length : Int) + 1) = some ⟨#[o]⟩ := by
  have e := ix_at (z := I) (k := (cl (pTxt l)).length + 1) (c := o) (by omega) (by
   rw [ei,List.getElem?_append_right (by omega),show (cl (pTxt l)).length + 1 - (cl (pTxt l)).length = 1 by omega]; rfl)
  rw [← e]; rfl
 have l5 : (cutS I none (some (((cl (pTxt l)).length : Int) + 1))).length ≤ 200 := by
  rw [Zas,Zfy,Zjh _ (by omega),List.length_take]
  rw [Zas] at li
  omega
 show (if (!(Txt.startswith z ("(" : Str))) = true then _ else gd (Zb0 z) _) = _
 rw [s40,if_neg (by decide),Zao (Za1 (by omega))]
 simp only [hI]
 rw [md,bs,s41]
 show (if (!true || false) = true then none else _) = _
 rw [if_neg (by decide),bs,Zao (Za1 (by omega)),Zao (Za1 (by omega)),c1,c2,c3,c4,c5,decide_eq_true rfl,if_neg (by decide),Zao (Za1 (by omega)),bs,if_neg (by decide),Zao (Za1 (by omega)),il,bs,Zao (Za1 (by omega)),ir,bs,bs,hm,bs]
theorem Zi1 : ∀ (P : Pat),okP P → P.forms.length ≤ 3 → ∀ (n : Nat) (w : Str),P.ht + 1 ≤ n → Za6 n (pTxt P) w = some P
 | .form ps,h,h3,n,w,hn => by
  obtain ⟨n,rfl⟩ : ∃ m,n = m + 1 := ⟨n - 1,by omega⟩
  obtain ⟨a,b,c⟩ := h.fs ps List.mem_cons_self
  have s40 : Txt.startswith (Txt.join ("" : Str) ps) ("(" : Str) = false := by
   rw [lit_signs.1,st_with,decide_eq_false_iff_not]
   exact fun q => (Zjd (Zcf a) 40 (List.mem_of_getElem? q)).1 rfl
  show (if (!(Txt.startswith (Txt.join ("" : Str) ps) ("(" : Str))) = true then ((Zd0 (Txt.join ("" : Str) ps)).bind fun t2 => if (t2.isNone) = true then none else (t2.bind fun t11 => gd (Nat.ble t11.length 900) ((Zan t11).bind fun t18 => some (Pat.form t18)))) else _) = _
  rw [s40,if_pos (by decide),parts_ok a c,bs]
  show (Option.bind (some ps) fun t11 => gd (Nat.ble t11.length 900) ((Zan t11).bind fun t18 => some (Pat.form t18))) = _
  rw [bs,Zao (Nat.ble_eq_true_of_le (by omega)),Zjf a c b,bs]
 | .both l r,h,h3,n,w,hn => by
  obtain ⟨n,rfl⟩ : ∃ m,n = m + 1 := ⟨n - 1,by omega⟩
  have hn : max l.ht r.ht + 1 + 1 ≤ n + 1 := hn
  obtain ⟨okl,okr⟩ := okP_sub h rfl rfl
  have h3' : (l.forms ++ r.forms).length ≤ 3 := h3
  rw [List.length_append] at h3'
  refine join_read (l := l) (r := r) h h3 rfl rfl (.inl rfl) (Zgn 38 op_cl.1) ?_ (Zi1 l okl (by omega) n w (by omega)) (Zi1 r okr (by omega) n w (by omega))
  rw [if_pos (by rw [lit_signs.2.2.2.1]; exact decide_eq_true rfl)]
  unfold Zaz Zbn
  rw [Za5 okl,bs,Za5 okr,bs,Zbb (by omega),bs,bs] <;> rfl
 | .either l r,h,h3,n,w,hn => by
  obtain ⟨n,rfl⟩ : ∃ m,n = m + 1 := ⟨n - 1,by omega⟩
  have hn : max l.ht r.ht + 1 + 1 ≤ n + 1 := hn
  obtain ⟨okl,okr⟩ := okP_sub h rfl rfl
  have h3' : (l.forms ++ r.forms).length ≤ 3 := h3
  rw [List.length_append] at h3'
  refine join_read (l := l) (r := r) h h3 rfl rfl (.inr rfl) (Zgn 124 op_cl.2) ?_ (Zi1 l okl (by omega) n w (by omega)) (Zi1 r okr (by omega) n w (by omega))
  rw [if_neg (by rw [lit_signs.2.2.2.1]; exact fun q => absurd (one_str.mp (of_decide_eq_true q)) (by decide))]
  unfold Za2 Za8
  rw [Za5 okl,bs,Za5 okr,bs,Zbb (by omega),bs,bs] <;> rfl
theorem read_ok {P : Pat} (h : okP P) (h3 : P.forms.length ≤ 3) (hh : P.ht ≤ 2) : Zbj (pTxt P) = some P := by
 have c1 := Zge P (Zkv h)
 have c2 := count_le (pTxt P) 40
 unfold Zbj
 rw [lit_signs.1,if_neg (fun q => by have := of_decide_eq_true q; omega),Zi1 P h h3 3 _ (by omega),bs]
end
theorem cls_form {fs : List (List Str)} {s : Shp} {n : Nat} (h : ShR s 0 n) : decide ((Zav fs s).cls = "Form") = decide ((n : Int) = 1) := by
 have d1 : ("Both" : Str) ≠ "Form" ∧ ("Either" : Str) ≠ "Form" := by decide +kernel
 generalize hl : (0 : Nat) = lo at h
 cases h with
 | lf k => rfl
 | @nd op l r lo a b h hl hr =>
  have pa := hl.pos
  have pb := hr.pos
  have e : (Zav fs (.nd op l r)).cls = if op = "&" then "Both" else "Either" := by
   show (if op = "&" then Pat.both (Zav fs l) (Zav fs r) else .either (Zav fs l) (Zav fs r)).cls = _
   split <;> rfl
  rw [e,decide_eq_false (show ¬ (((a + b : Nat) : Int)) = 1 by omega)]
  refine decide_eq_false ?_
  split
  ·exact d1.1
  ·exact d1.2
theorem right6 {p : Int × Int} {fs : List (List Str)} {s : Shp} (hf : ∀ ps ∈ fs,alw ps ∧ 1 ≤ ps.length ∧ ps.length ≤ 4) (hs : ShR s 0 fs.length) (h1 : 1 ≤ fs.length) (n3 : fs.length ≤ 3) : Ok (Zec p fs s) fun r => r.1 = true := by
 have hd := hs.dep_le
 have hP : okP (Zav fs s) := Zhc hf hs (by omega) (by omega)
 have eF : (Zav fs s).forms = fs := by rw [Zda hs (by omega),List.drop_zero,List.take_length]
 have hht := patSh_ht (fs := fs) hs
 have eR : Zbj (pTxt (Zav fs s)) = some (Zav fs s) := read_ok hP (by rw [eF]; exact n3) (by omega)
 have eB : Zca 3 s fs = some (Zav fs s) := built_eq12 hf hs (by omega) n3 (by omega) 3 (by omega)
 obtain ⟨c1,c2,c3⟩ := cls_and (fs := fs) hs
 unfold Zec
 refine Ok.bde (shown_eq hf hs (by omega) (by omega) 3 (by omega)) (Ok.bde eR (Ok.bde (str_eq hP) ?_))
 have cf : comp Zdf fs () = some (fs,()) := by
  rw [Zhm (fun ps => ps) fun ps hp => ?_,List.map_id']
  unfold Zdf
  obtain ⟨a,b,c⟩ := hf ps hp
  rw [law_form_eq a c b]; rfl
 refine Ok.bde (a := false) ?_ ?_
 ·rw [if_neg (by rw [decide_eq_true rfl]; decide),Zao (Zfr (by omega)),cf,bs,eB,bs,eq_pat hP hP,bs,decide_eq_true rfl]; rfl
 rw [if_neg (by decide)]
 refine Ok.bde (Za5 hP) ?_
 rw [eF]
 have cp : comp Zes fs () = some (fs,()) := by
  rw [Zhm (fun ps => ps) fun ps hp => rfl,List.map_id']
 have cq : comp Zer fs () = some (fs,()) := by
  rw [Zhm (fun ps => ps) fun ps hp => rfl,List.map_id']
 have shF : shp (dL (dT dS)) fs = true := shpD fun ps hp q hq => by
  have := part_ok (Zcf (hf ps hp).1 q hq)
  exact this
 refine Ok.gd (Zfr (by omega)) (Ok.bde cp (Ok.gd (Zfr (by omega)) (Ok.bde cq (Ok.gd shF (Ok.gd shF ?_)))))
 rw [if_neg (by rw [decide_eq_true rfl]; decide)]
 refine Ok.bde (a := false) ?_ ?_
 ·rw [cls_form hs,if_neg (by rw [decide_eq_true rfl]; decide),Zao c3,c1,decide_eq_true rfl]; rfl
 rw [if_neg (by decide)]
 refine Ok.bd (Ok.loopN (fun _ _ => True) trivial fun pre ps post q e _ => ?_) ?_
 ·have hp : ps ∈ fs := by rw [e]; simp
  unfold Zep
  refine Ok.bd (line_ok (Zcf (hf ps hp).1) (hf ps hp).2.2) fun t1 ⟨g1,l1⟩ => Ok.bd (spoiled_ok g1 (by omega)) fun t2 ⟨g2,l2⟩ => ?_
  have lz : t2.1.length ≤ 500 := by omega
  refine Ok.bde (a := if t2.1 = "" then false else fitB (Zav fs s) (cl t2.1)) ?_ (Ok.gd (Zfr (by omega)) (Ok.bde (Zhm (fun ps => if t2.1 = "" then false else fitG (cl t2.1) ps) fun ps hp => ?_) ?_))
  ·by_cases z : t2.1 = ""
   ·rw [if_pos z,z]; exact Zk4 _
   ·rw [if_neg z]
    refine contains_eq hP g2 ?_ lz
    have hne : cl t2.1 ≠ [] := fun q => z (Zhn (by rw [q]; decide +kernel))
    have := List.length_pos_iff.mpr hne
    rw [Zas]; omega
  ·unfold Zeq
   rw [fits_any (hf ps hp).1 lz]; rfl
  refine Ok.bde (holds_sh (fun ps => if t2.1 = "" then false else fitG (cl t2.1) ps) hs (by omega) 3 (by omega)) ?_
  have ev : evP (fun ps => if t2.1 = "" then false else fitG (cl t2.1) ps) (Zav fs s) = if t2.1 = "" then false else fitB (Zav fs s) (cl t2.1) := by
   by_cases z : t2.1 = ""
   ·simp only [if_pos z]; exact Zgp _
   ·simp only [if_neg z]; rfl
  rw [ev,if_neg (by rw [decide_eq_true rfl]; decide)]
  exact Ok.sm ⟨_,rfl,trivial⟩
 ·rintro _ ⟨q,rfl,_⟩
  refine Ok.gd c3 (Ok.bde (a := true) ?_ (Ok.sm rfl))
  rw [c2,if_pos (by rw [decide_eq_true rfl]),eR,bs,eq_pat hP hP,bs,decide_eq_true rfl]
theorem math (ns : List Int) (h : ns.length ≤ 63) : m_law ns = some true := by
 unfold m_law
 have hm : 0 ≤ maxI 1 (minI 24 (ns.length : Int)) ∧ maxI 1 (minI 24 (ns.length : Int)) ≤ 24 := by
  unfold maxI minI
  split <;> split <;> omega
 refine Ok.eq (Ok.gd (Zgy (by omega) (by omega) (by omega) (by omega)) ?_)
 refine Ok.bd (Ok.loopN (fun _ _ => True) trivial fun pre k post q e _ => ?_) ?_
 ·have hk := (rng_at e).2.2
  unfold Zkw
  refine Ok.bd (pool_ok (by omega) (by omega)) fun p1 _ => Ok.bd (Zb2 (by decide) (by decide)) fun d1 h1 => Ok.gd (Zgy (by omega) (by omega) (by omega) (by omega)) (Ok.gd (Zfr (by rw [Zci]; omega)) ?_)
  refine Ok.bd (comp_all5 (P := fun ps => alw ps ∧ 1 ≤ ps.length ∧ ps.length ≤ 4) fun x _ s => ?_) fun t60 ⟨lf,hfs⟩ => ?_
  ·unfold Zkx
   exact Ok.bd rich_alw fun r hr => Ok.sm ⟨r.1,rfl,hr⟩
  rw [Zci] at lf
  have n1 : 1 ≤ t60.1.length := by omega
  have n3 : t60.1.length ≤ 3 := by omega
  refine Ok.bd (shape_ok n1 (by omega)) fun t hsh => Ok.bd (right6 hfs hsh n1 n3) fun u hu => ?_
  rw [hu,if_neg (by decide)]
  exact Ok.sm ⟨_,rfl,trivial⟩
 ·rintro _ ⟨s,rfl,_⟩
  exact Ok.sm rfl
theorem txHead {P : Program} {K : PySem.W.Frag} {h : Heap} {mg : Str → Option Value} (X : K.In h) (G : h.Ns mainGlobals mg) (c : He.SaysD fa fn K) (t : tabs P K = true) : Tx K mg := {
 F_law_pool := Za9 c 0
 g_law_pool := He.glo_ok X G (c.fact 0)
 F_law_take := Za9 c 1
 g_law_take := He.glo_ok X G (c.fact 1)
 F_law_all_signs := Za9 c 2
 g_law_all_signs := He.glo_ok X G (c.fact 2)
 F_law_text := Za9 c 3
 g_law_text := He.glo_ok X G (c.fact 3)
 F_law_rich := Za9 c 4
 g_law_rich := He.glo_ok X G (c.fact 4)
 F_Form___str__ := Za9 c 5
 F_Both___str__ := Za9 c 6
 F_Either___str__ := Za9 c 7
 F_law_shown := Za9 c 8
 g_law_shown := He.glo_ok X G (c.fact 5)
 F_middle_of := Za9 c 9
 g_middle_of := He.glo_ok X G (c.fact 6)
 F_Form_forms := Za9 c 10
 F_Either_forms := Za9 c 11
 F_Both_forms := Za9 c 12
 F_Both___init__ := Za9 c 13
 F_Pattern___and__ := Za9 c 14
 F_Either___init__ := Za9 c 15
 F_Pattern___or__ := Za9 c 16
 F_parts_of := Za9 c 17
 g_parts_of := He.glo_ok X G (c.fact 7)
 F_is_line := Za9 c 18
 g_is_line := He.glo_ok X G (c.fact 8)
 F_is_allowed := Za9 c 19
 g_is_allowed := He.glo_ok X G (c.fact 9)
 F_Form___init__ := Za9 c 20
 F_pattern_of := Za9 c 21
 g_pattern_of := He.glo_ok X G (c.fact 10)
 F_read_pattern := Za9 c 22
 g_read_pattern := He.glo_ok X G (c.fact 11)
 F_Pattern___eq__ := Za9 c 23
 F_law_spoiled := Za9 c 24
 g_law_spoiled := He.glo_ok X G (c.fact 12)
 F_Form___contains__ := Za9 c 25
 F_Both___contains__ := Za9 c 26
 F_Either___contains__ := Za9 c 27
 F_Form_holds := Za9 c 28
 F_Either_holds := Za9 c 29
 F_Both_holds := Za9 c 30
 F_cells_of := Za9 c 31
 g_cells_of := He.glo_ok X G (c.fact 13)
 F_closed := Za9 c 32
 g_closed := He.glo_ok X G (c.fact 14)
 F_started := Za9 c 33
 g_started := He.glo_ok X G (c.fact 15)
 F_Form_parts := Za9 c 34
 F_takes := Za9 c 35
 g_takes := He.glo_ok X G (c.fact 16)
 F_moved := Za9 c 36
 g_moved := He.glo_ok X G (c.fact 17)
 F_is_done := Za9 c 37
 g_is_done := He.glo_ok X G (c.fact 18)
 F_law_built := Za9 c 38
 g_law_built := He.glo_ok X G (c.fact 19)
 F_law_line := Za9 c 39
 g_law_line := He.glo_ok X G (c.fact 20)
 F_law_holds := Za9 c 40
 g_law_holds := He.glo_ok X G (c.fact 21)
 F_law_form := Za9 c 41
 g_law_form := He.glo_ok X G (c.fact 22)
 F_law_takes := Za9 c 42
 g_law_takes := He.glo_ok X G (c.fact 23)
 F_law_ends := Za9 c 43
 g_law_ends := He.glo_ok X G (c.fact 24)
 F_law_fits := Za9 c 44
 g_law_fits := He.glo_ok X G (c.fact 25)
 F_law_right := Za9 c 45
 g_law_right := He.glo_ok X G (c.fact 26)
 F_law_shape := Za9 c 46
 g_law_shape := He.glo_ok X G (c.fact 27)
 F_law := Za9 c 47
 g_law := He.glo_ok X G (c.fact 28)
 c_Form := He.cls_ok (c.fact 30)
 gc_Form := He.glo_ok X G (c.fact 29)
 na_Form_pieces := He.noat_ok (c.fact 31)
 me_Form___str__ := He.meth_ok (c.fact 32)
 me_Form_forms := He.meth_ok (c.fact 33)
 mk_Form := He.mkr_ok (c.fact 34)
 me_Form___contains__ := He.meth_ok (c.fact 35)
 me_Form_holds := He.meth_ok (c.fact 36)
 me_Form_parts := He.meth_ok (c.fact 37)
 c_Both := He.cls_ok (c.fact 39)
 gc_Both := He.glo_ok X G (c.fact 38)
 na_Both_left := He.noat_ok (c.fact 40)
 na_Both_right := He.noat_ok (c.fact 41)
 me_Both___str__ := He.meth_ok (c.fact 42)
 me_Both_forms := He.meth_ok (c.fact 43)
 mk_Both := He.mkr_ok (c.fact 44)
 me_Both___contains__ := He.meth_ok (c.fact 45)
 me_Both_holds := He.meth_ok (c.fact 46)
 c_Either := He.cls_ok (c.fact 48)
 gc_Either := He.glo_ok X G (c.fact 47)
 na_Either_left := He.noat_ok (c.fact 49)
 na_Either_right := He.noat_ok (c.fact 50)
 me_Either___str__ := He.meth_ok (c.fact 51)
 me_Either_forms := He.meth_ok (c.fact 52)
 mk_Either := He.mkr_ok (c.fact 53)
 me_Either___contains__ := He.meth_ok (c.fact 54)
 me_Either_holds := He.meth_ok (c.fact 55)
 c_Pattern := He.cls_ok (c.fact 57)
 gc_Pattern := He.glo_ok X G (c.fact 56)
 me_Pattern___and__ := He.meth_ok (c.fact 58)
 me_Pattern___or__ := He.meth_ok (c.fact 59)
 me_Pattern___eq__ := He.meth_ok (c.fact 60)
 pf := patB_ok (He.ba t).1 (He.cls_ok (c.fact 30)) (He.cls_ok (c.fact 39)) (He.cls_ok (c.fact 48))
 pe := patEB_ok (He.ba (He.ba (He.ba t).2).2).1
 pn := (He.ba (He.ba (He.ba (He.ba t).2).2).2).1
 gx_NoForm := He.glo_ok X G (c.fact 61)
 k_ANY_CELL := He.str_ok X G (c.fact 72)
 k_DIGITS_CELL := He.str_ok X G (c.fact 73)
 k_DIGIT_SIGNS := He.str_ok X G (c.fact 74)
 g_FREE_CELLS := He.glo_ok X G (c.fact 75)
 q_FREE_CELLS := fun F => ⟨_,_,rfl,He.tupB_ok (He.ba (He.ba t).2).1 F,(.cons rfl (.cons rfl (.cons rfl .nil)))⟩
 k_LETTER_SIGNS := He.str_ok X G (c.fact 76)
 k_MOST_FORMS := He.int_ok X G (c.fact 77)
 k_MOST_PARTS := He.int_ok X G (c.fact 78)
 k_MOST_SIGNS := He.int_ok X G (c.fact 79)
 k_SIGNS := He.str_ok X G (c.fact 80)
 k_WORD_CELL := He.str_ok X G (c.fact 81)
 n_enumerate := He.free_ok X G (c.fact 62)
 n_int := He.free_ok X G (c.fact 63)
 n_isinstance := He.free_ok X G (c.fact 64)
 n_len := He.free_ok X G (c.fact 65)
 n_list := He.free_ok X G (c.fact 66)
 n_max := He.free_ok X G (c.fact 67)
 n_min := He.free_ok X G (c.fact 68)
 n_range := He.free_ok X G (c.fact 69)
 n_str := He.free_ok X G (c.fact 70)
 n_tuple := He.free_ok X G (c.fact 71)
}
theorem law_fn {P : Program} {w : World} {K : PySem.W.Frag} {h : Heap} {mg : Str → Option Value} {f : Addr} (X : K.In h) (G : h.Ns mainGlobals mg) (hfa : mg ("law" : Str) = some (.ref f)) (c : He.SaysD fa fn K) (t : tabs P K = true) :
 ∃ (K' : PySem.W.Frag) (fd : FuncData) (sp : L2.Sp),K'.In h ∧ (∀ (s : Shared) (v : Value),BindsTo s fd ⟨[v],[]⟩ [("_law_script",v)]) ∧ (∀ (H : Hp) (a : Addr) (ns : List Int),ns.length ≤ 63 → Only H → SqL K' H a (ns.map V.int) → sp [.ref a] H (fun v _ => v = .bl true) fun _ _ _ => False) ∧ ∀ base : Heap,K'.In base → base.Ns mainGlobals mg → FnOk P w K' mg base CX0 16 f fd ["_law_script"] sp := by
 have T : Tx K mg := txHead X G c t
 have e := hfa.symm.trans T.g_law
 cases e
 have b := FunD.bindsA (ps := ["_law_script"]) T.F_law fun _ _ _ _ _ _ us hl => match us,hl with | [_],_ => rfl
 refine ⟨K,_,sp_law K,X,fun s v => b s [v] rfl,fun H a ns hl _ hS => ?_,fun base _ _ => ok_law T⟩
 exact ⟨H,.ref a,ns,true,rfl,Same.refl H,⟨a,rfl,hS⟩,math ns hl,fun v F' H' _ hv => hv⟩
theorem hk_says {K : PySem.W.Frag} (c : obK K = (true,[],He.valD fn)) : He.SaysD fa fn K ∧ tabs RR.prog K = true := by
 have h1 : (tabs RR.prog K) = true := congrArg Prod.fst c
 have h2 : ([] : List FnU) = [] := congrArg (fun z : Bool × List FnU × He.AlD => z.2.1) c
 have h3 : He.SaysD fa fn K := congrArg (fun z : Bool × List FnU × He.AlD => z.2.2) c
 exact ⟨h3,h1⟩
end Law
open PySem PySem.W PySem.Calls PyProof.Rows
theorem PySem.Challenge.cw_gluedlines_k06_pattern_texts_read_holds : PySem.Challenge.rw_gluedlines_k06_pattern_texts_read.Holds := by
 w_on; o_law
 refine HandSHeadRun.head_any (r := OpenLaw.row PySem.Challenge.rw_gluedlines_k06_pattern_texts_read) (q := view (OpenLaw.row PySem.Challenge.rw_gluedlines_k06_pattern_texts_read).prog [51]) (H := Law.hk) (ob := Law.ob) (M := 60000) (loose := Law.loose) (d := HandSHeadRun.topDef (OpenLaw.row PySem.Challenge.rw_gluedlines_k06_pattern_texts_read).prog 51) (kwd := []) Law.ob_eq
  (by kernel_rfl) (fun s => by kernel_rfl) Law.run (by kernel_rfl) (by kernel_rfl) (by kernel_rfl) (by rfl) (by first | assumption | decide +kernel) (by decide +kernel) ⟨rfl,rfl,rfl,rfl,rfl,by decide +kernel⟩ ?hw ?hc
 case hw => w_witness2
 case hc =>
  refine L2.walk_ofE (l := PySem.Challenge.rw_gluedlines_k06_pattern_texts_read) (n := 63) (k := 16) (x := "_law_script") (CX := L2.CX0) rfl (by decide) (by kernel_rfl) ⟨rfl,by decide,by decide⟩ ?F (fun _ _ _ _ z => z)
  intro w mg fa h Y G hmg0
  obtain ⟨K,KX,c⟩ := Y
  have hmg : mg ("law" : PySem.Str) = some (.ref fa) := by
   have e : (HandSHeadRun.topDef (OpenLaw.row PySem.Challenge.rw_gluedlines_k06_pattern_texts_read).prog 51).name = ("law" : PySem.Str) := by kernel_rfl
   rw [← e]
   exact hmg0
  obtain ⟨c,t⟩ := Law.hk_says c
  exact Law.law_fn KX G hmg c t
#print axioms PySem.Challenge.cw_gluedlines_k06_pattern_texts_read_holds
