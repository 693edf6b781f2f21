import PyProof.Rows.All
import Wide.All
import OpenK.AllK
import Wide.FinOn
import HandS.ForMost
import HandS.IsInst
import HandS.Flow
import HandS.Style
import HandS.Wide
import HandS.Walk
import HandS.ClsMeth
import HandS.Property
import HandS.MakeKwOnly
import HandS.StrMore
import HandS.DictComp
import HandS.SetKeys
import HandS.TupAny
import HandS.Steps
import HandS.Defaults
import KE.GoesNew
import KE.GoesEnum
import KE.GoesMore
import HandS.RaiseMore
import KE.KRevSl
import PyProof.ReprRoads
import PyProof.ReprText
import HandS.HeadEnd
import HandS.Head0
import HandS.Head1
import HandS.Head2
import HandS.HeadHook1
import HandS.HeadHook2
import PySem.Challenge.RW_piecetexts_k52_whole_least_patches
set_option Elab.async false
set_option linter.all false
set_option maxRecDepth 100000
set_option maxHeartbeats 1000000
namespace Px
open PySem PySem.Spec PyProof.Rows L2
abbrev S := L2.St

/-! ### heaps that grow -/
def SameB (b : Addr) (H H' : Hp) : Prop := ∀ a o, a ≠ b → H a = some o → H' a = some o
theorem same_new {H : Hp} {p : Addr} {o : HO} (h : H p = none) : Same H (upd H p o) := fun a u e => (upd_ne (ne_of_none e h)).trans e
theorem same_mut {H H' : Hp} {p : Addr} {o : HO} (e : Same H H') (h : H p = none) : Same H (upd H' p o) := fun a u ha => (upd_ne (ne_of_none ha h)).trans (e a u ha)
theorem same_mutB {H H' : Hp} {p : Addr} (h : H p = none) {H1 : Hp} (e : Same H H1) (e2 : SameB p H1 H') : Same H H' := fun a u ha => e2 a u (ne_of_none ha h) (e a u ha)
theorem sameB_upd {H : Hp} {b : Addr} {o : HO} : SameB b H (upd H b o) := fun a u n e => (upd_ne n).trans e
theorem SameB.refl (b : Addr) (H : Hp) : SameB b H H := fun _ _ _ h => h
theorem SameB.trans {b : Addr} {H H1 H2 : Hp} (x : SameB b H H1) (y : SameB b H1 H2) : SameB b H H2 := fun a o n h => y a o n (x a o n h)
theorem toB {b : Addr} {H H' : Hp} (e : Same H H') : SameB b H H' := fun a o _ h => e a o h
theorem SameB.free {b : Addr} {H H' : Hp} (e : SameB b H H') {l : Addr} (n : l ≠ b) (h : H' l = none) : H l = none := by
  cases q : H l with
  | none => rfl
  | some o => rw [e l o n q] at h; cases h
theorem gs {H H' : Hp} {a : Addr} {o : HO} (e : Same H H') (h : H a = some o) : H' a = some o := e a o h
theorem gb {b : Addr} {H H' : Hp} {a : Addr} {o : HO} (e : SameB b H H') (n : a ≠ b) (h : H a = some o) : H' a = some o := e a o n h
theorem gu {b : Addr} {H : Hp} {a : Addr} {o u : HO} (n : a ≠ b) (h : H a = some o) : upd H b u a = some o := (upd_ne n).trans h
section
variable {K : PySem.W.Frag} {H H' : Hp} {a b : Addr} {xs : List V}
theorem ql (h : H a = some (.lst xs)) : SqL K H a xs := .inl (.inl h)
theorem qt (h : H a = some (.tup xs)) : SqT K H a xs := .inl (.inl h)
theorem gsl (e : Same H H') (h : SqL K H a xs) : SqL K H' a xs := e.seq h
theorem gst (e : Same H H') (h : SqT K H a xs) : SqT K H' a xs := by
  rcases h with (h | ⟨o, h⟩) | h
  · exact .inl (.inl (e _ _ h))
  · exact .inl (.inr ⟨o, e _ _ h⟩)
  · exact .inr h
theorem gbl (e : SameB b H H') (n : a ≠ b) (h : SqL K H a xs) : SqL K H' a xs := by
  rcases h with (h | ⟨o, h⟩) | h
  · exact .inl (.inl (e _ _ n h))
  · exact .inl (.inr ⟨o, e _ _ n h⟩)
  · exact .inr h
theorem gbt (e : SameB b H H') (n : a ≠ b) (h : SqT K H a xs) : SqT K H' a xs := by
  rcases h with (h | ⟨o, h⟩) | h
  · exact .inl (.inl (e _ _ n h))
  · exact .inl (.inr ⟨o, e _ _ n h⟩)
  · exact .inr h
mutual
theorem dps (e : Same H H') : ∀ (d : PyData) (v : V), Dp K H v d → Dp K H' v d
  | .none, _, h => by cases h; exact .non
  | .bool _, _, h => by cases h; exact .bl _
  | .int _, _, h => by cases h; exact .int _
  | .str _, _, h => by cases h; exact .str _
  | .list ds, _, h => by
    cases h with
    | lst hs ha => exact .lst (gsl e hs) (dpsAll e ds _ ha)
  | .tuple ds, _, h => by
    cases h with
    | tup hs ha => exact .tup (gst e hs) (dpsAll e ds _ ha)
  | .dict _, _, h => by cases h
theorem dpsAll (e : Same H H') : ∀ (ds : List PyData) (vs : List V), DpAll K H vs ds → DpAll K H' vs ds
  | [], _, h => by cases h; exact .nil
  | d :: ds, _, h => by
    cases h with
    | cons h1 h2 => exact .cons (dps e d _ h1) (dpsAll e ds _ h2)
end
end

/-! ### one step of a reading -/
section
variable {K : PySem.W.Frag} {σ : S} {H : Hp} {Q : VK} {D : Ends} {t u : TS} {ta tb te tc : TE} {x y v : V} {tr : TA} {i : Nat} {g : TG} {c c2 : TT}
theorem r_seq (h : t { D with nx := u D } σ H) : tSeq t u D σ H := h
theorem r_next (h : D.nx σ H) : tNext D σ H := h
theorem r_ret (h : te σ H D.rt) : tRet te D σ H := h
theorem r_retN (h : D.rt .non H) : tRetN D σ H := h
theorem r_asg (h : te σ H fun x H1 => g x σ H1 D.nx) : tAsg te g D σ H := h
theorem r_drop (h : te σ H fun _ H1 => D.nx σ H1) : tDrop te D σ H := h
theorem r_ifs (h : c σ H fun b H1 => if b = true then t D σ H1 else u D σ H1) : tIfS c t u D σ H := h
theorem r_brk (h : D.bk σ H) : tBreak D σ H := h
theorem r_cont (h : D.ct σ H) : tCont D σ H := h
theorem r_gname {P : S → Hp → Prop} (h : P (σ.set i (some v)) H) : gName i v σ H P := h
theorem r_gtup {n : Nat} {gs : TGs} {a : Addr} {xs : List V} {P : S → Hp → Prop} (h1 : SqT K H a xs) (h2 : xs.length = n) (h : gs xs σ H P) : gTup K n gs (.ref a) σ H P := ⟨a, xs, rfl, h1, h2, h⟩
theorem r_gcons {gs : TGs} {xs : List V} {P : S → Hp → Prop} (h : g x σ H fun σ' H' => gs xs σ' H' P) : gCons g gs (x :: xs) σ H P := ⟨x, xs, rfl, h⟩
theorem r_gnil {P : S → Hp → Prop} (h : P σ H) : gNil [] σ H P := ⟨rfl, h⟩
theorem r_gsub {ts : TSet} {P : S → Hp → Prop} (h : ta σ H fun o H1 => tb σ H1 fun i H2 => ts o i v H2 fun H3 => P σ H3) : gSub ta tb ts v σ H P := h
theorem r_setL {p : Addr} {xs : List V} {k : Int} {j : Nat} {P : Hp → Prop} (h1 : H p = some (.lst xs)) (h2 : ixN xs.length k = some j) (h : P (upd H p (.lst (xs.set j v)))) : rSetL (.ref p) (.int k) v H P := ⟨p, xs, k, j, rfl, rfl, h1, h2, h⟩
theorem r_aug {ti : TIp} (hx : σ[i]? = some (some x)) (h : te σ H fun y H1 => ti x y H1 fun z H2 => D.nx (σ.set i (some z)) H2) : tAug i te ti D σ H := ⟨x, hx, h⟩
theorem r_par {j : Nat} (h : tr σ H fun vs H1 => ∃ v w, vs = [v, w] ∧ D.nx ((σ.set i (some v)).set j (some w)) H1) : tPar i j tr D σ H := h
theorem r_two {P : V → V → Prop} (h : P x y) : ∃ v w, [x, y] = [v, w] ∧ P v w := ⟨x, y, rfl, h⟩
theorem r_var (h1 : σ[i]? = some (some v)) (h : Q v H) : tVar i σ H Q := ⟨v, h1, h⟩
theorem r_c (h : Q v H) : tC v σ H Q := h
theorem r_op {r : R2} (h : ta σ H fun x H1 => tb σ H1 fun y H2 => r x y H2 Q) : tOp r ta tb σ H Q := h
theorem r_un {r : V → Hp → VK → Prop} (h : ta σ H fun x H1 => r x H1 Q) : tUn r ta σ H Q := h
theorem r_if (h : c σ H fun b H1 => if b = true then ta σ H1 Q else tb σ H1 Q) : tIf c ta tb σ H Q := h
theorem r_test {P : Bool → Hp → Prop} (h : te σ H fun x H' => ∃ k, x = .bl k ∧ P k H') : tTest te σ H P := h
theorem r_b {P : Bool → Hp → Prop} (h : te σ H fun x H' => ∃ k, x = .bl k ∧ P k H') : tB te σ H P := h
theorem r_bl {b : Bool} {P : Bool → Prop} (h : P b) : ∃ k, V.bl b = V.bl k ∧ P k := ⟨b, rfl, h⟩
theorem r_and {P : Bool → Hp → Prop} (h : c σ H fun b H1 => if b = true then c2 σ H1 P else P false H1) : tAnd c c2 σ H P := h
theorem r_or {P : Bool → Hp → Prop} (h : c σ H fun b H1 => if b = true then P true H1 else c2 σ H1 P) : tOr c c2 σ H P := h
theorem r_not {P : Bool → Hp → Prop} (h : c σ H fun b H1 => P (!b) H1) : tNot c σ H P := h
theorem r_andV (h : ta σ H fun x H1 => ∃ c, x = .bl c ∧ if c = true then tb σ H1 Q else Q (.bl false) H1) : tAndV ta tb σ H Q := h
theorem r_orV (h : ta σ H fun x H1 => ∃ c, x = .bl c ∧ if c = true then Q (.bl true) H1 else tb σ H1 Q) : tOrV ta tb σ H Q := h
theorem r_notV (h : ta σ H fun x H1 => ∃ c, x = .bl c ∧ Q (.bl (!c)) H1) : tNotV ta σ H Q := h
theorem r_chain {r r' : R2} (h : ta σ H fun x H1 => tb σ H1 fun y H2 => r x y H2 fun z H3 => ∃ k, z = .bl k ∧ (if k = true then tc σ H3 fun w' H4 => r' y w' H4 Q else Q (.bl false) H3)) : tChain r r' ta tb tc σ H Q := h
theorem r_nil {P : List V → Hp → Prop} (h : P [] H) : tNil σ H P := h
theorem r_cons {P : List V → Hp → Prop} (h : ta σ H fun x H1 => tr σ H1 fun xs H2 => P (x :: xs) H2) : tCons ta tr σ H P := h

theorem same_of {H H2 : Hp} {p : Addr} {o : HO} (h : upd H p o = H2) (n : H p = none) : Same H H2 := h ▸ same_new n
theorem at_of {H H2 : Hp} {p : Addr} {o : HO} (h : upd H p o = H2) : H2 p = some o := h ▸ upd_same
theorem sameB_of {H H2 : Hp} {p : Addr} {o : HO} (h : upd H p o = H2) : SameB p H H2 := h ▸ sameB_upd
theorem r_tup (h : tr σ H fun xs H1 => xs.length ≤ sizeLine ∧ ∀ p, H1 p = none → Q (.ref p) (upd H1 p (.tup xs))) : tTup tr σ H Q := h
theorem r_lst (h : tr σ H fun xs H1 => xs.length ≤ sizeLine ∧ ∀ p, H1 p = none → Q (.ref p) (upd H1 p (.lst xs))) : tLst tr σ H Q := h
theorem r_call {sp : Sp} {dvs : List V} {E : XK} (h : tr σ H fun vs H1 => sp (vs ++ dvs) H1 Q E) : tCall sp dvs E tr σ H Q := h
theorem r_cb {r : List V → Hp → VK → Prop} (h : tr σ H fun vs H1 => r vs H1 Q) : tCB r tr σ H Q := h
theorem r_I0 {g : Int → Int → V} {i j : Int} (h : Q (g i j) H) : rI0 g (.int i) (.int j) H Q := ⟨i, j, rfl, rfl, h⟩
theorem r_I {C : Int → Int → Prop} {g : Int → Int → V} {i j : Int} (hc : C i j) (h : Q (g i j) H) : rI C g (.int i) (.int j) H Q := ⟨i, j, rfl, rfl, hc, h⟩
theorem r_eqI {i j : Int} (h : Q (.bl (decide (i = j))) H) : rEq (.int i) (.int j) H Q := ⟨rfl, by
  have e : decide (V.int i = V.int j) = decide (i = j) := by simp
  rw [e]; exact h⟩
theorem r_neI {i j : Int} (h : Q (.bl (!decide (i = j))) H) : rNe (.int i) (.int j) H Q := ⟨rfl, by
  have e : decide (V.int i = V.int j) = decide (i = j) := by simp
  rw [e]; exact h⟩
theorem r_eqS {i j : Str} (h : Q (.bl (decide (i = j))) H) : rEq (.str i) (.str j) H Q := ⟨rfl, by
  have e : decide (V.str i = V.str j) = decide (i = j) := by simp
  rw [e]; exact h⟩
theorem r_neS {i j : Str} (h : Q (.bl (!decide (i = j))) H) : rNe (.str i) (.str j) H Q := ⟨rfl, by
  have e : decide (V.str i = V.str j) = decide (i = j) := by simp
  rw [e]; exact h⟩
theorem r_eqB {i j : Bool} (h : Q (.bl (decide (i = j))) H) : rEq (.bl i) (.bl j) H Q := ⟨rfl, by
  have e : decide (V.bl i = V.bl j) = decide (i = j) := by simp
  rw [e]; exact h⟩
theorem r_ixL {p : Addr} {xs : List V} {i : Int} (h1 : SqL K H p xs) (h2 : atI xs i = some v) (h : Q v H) : rIx K (.ref p) (.int i) H Q := .inl ⟨p, xs, i, v, rfl, rfl, h1, h2, h⟩
theorem r_ixT {p : Addr} {xs : List V} {i : Int} (h1 : SqT K H p xs) (h2 : atI xs i = some v) (h : Q v H) : rIx K (.ref p) (.int i) H Q := .inr (.inl ⟨p, xs, i, v, rfl, rfl, h1, h2, h⟩)
theorem r_ixS {z : Str} {i : Int} {c : Nat} (h1 : z.length ≤ sizeLine) (h2 : atI z.cps.toList i = some c) (h : Q (.str ⟨#[c]⟩) H) : rIx K (.str z) (.int i) H Q := .inr (.inr ⟨z, i, c, rfl, rfl, h1, h2, h⟩)
theorem r_iteD {p A B : Prop} [Decidable p] (h1 : p → A) (h2 : ¬p → B) : if decide p = true then A else B := by
  by_cases q : p
  · rw [if_pos (decide_eq_true q)]; exact h1 q
  · rw [if_neg (by simpa using q)]; exact h2 q
theorem r_iteND {p A B : Prop} [Decidable p] (h1 : ¬p → A) (h2 : p → B) : if (!decide p) = true then A else B := by
  by_cases q : p
  · rw [if_neg (by simpa using q)]; exact h2 q
  · rw [if_pos (by simpa using q)]; exact h1 q
theorem r_iteB {b : Bool} {A B : Prop} (h1 : b = true → A) (h2 : b = false → B) : if b = true then A else B := by
  cases b
  · rw [if_neg Bool.false_ne_true]; exact h2 rfl
  · rw [if_pos rfl]; exact h1 rfl
theorem r_iteT {A B : Prop} (h : A) : if true = true then A else B := by rw [if_pos rfl]; exact h
theorem r_iteF {A B : Prop} (h : B) : if false = true then A else B := by rw [if_neg Bool.false_ne_true]; exact h
end
end Px

namespace Px
open PySem PySem.Spec PyProof.Rows L2

/-! ### operators by any kind of value -/
abbrev rAddI : R2 := rI0 fun i j => .int (i + j)
abbrev rSubI : R2 := rI0 fun i j => .int (i - j)
abbrev rLtI : R2 := rI0 fun i j => .bl (decide (i < j))
abbrev rLeI : R2 := rI0 fun i j => .bl (decide (i ≤ j))
abbrev rGtI : R2 := rI0 fun i j => .bl (decide (j < i))
abbrev rGeI : R2 := rI0 fun i j => .bl (decide (j ≤ i))
abbrev rFdivI : R2 := rI CDivN fun i j => .int (i.fdiv j)
abbrev rModI : R2 := rI (fun _ j => j ≠ 0) fun i j => .int (i.fmod j)
abbrev rPowI : R2 := rI CPow fun i j => .int (i ^ j.toNat)
abbrev rMulI : R2 := rI CMul fun i j => .int (i * j)
abbrev rNegI : V → Hp → VK → Prop := rU fun i => .int (-i)
def rAddS : R2 := fun x y H Q => ∃ i j, x = .str i ∧ y = .str j ∧ i.length + j.length ≤ sizeLine ∧ Q (.str (i ++ j)) H
def rAddU (K : PySem.W.Frag) : R2 := fun x y H Q => rAddI x y H Q ∨ rAddS x y H Q ∨ rCat x y H Q ∨ rCatA K x y H Q
def rMulU (K : PySem.W.Frag) : R2 := fun x y H Q => rMulI x y H Q ∨ rRep x y H Q
def rEqU (K : PySem.W.Frag) : R2 := fun x y H Q => rEq x y H Q ∨ rEqD K x y H Q
def rNeU (K : PySem.W.Frag) : R2 := fun x y H Q => rNe x y H Q ∨ rNeD K x y H Q
def rIsNN : R2 := fun x y H Q => y = .non ∧ Q (.bl (decide (x = .non))) H
def rNotNN : R2 := fun x y H Q => y = .non ∧ Q (.bl (!decide (x = .non))) H
def rInU (K : PySem.W.Frag) : R2 := fun x y H Q => rInS x y H Q ∨ rIn K false x y H Q
def rNinU (K : PySem.W.Frag) : R2 := fun x y H Q => rNotInS x y H Q ∨ rIn K true x y H Q
def rSlU (K : PySem.W.Frag) : V → Option Int → Option Int → Hp → VK → Prop := fun x lo hi H Q => rSlL K x lo hi H Q ∨ rSlS x lo hi H Q ∨ rSlA K x lo hi H Q
section
variable {X : Cx}
theorem op_addU : OpR X (binaryOp .Add) (rAddU X.K) := OpR.or op_add (OpR.or op_add_str (OpR.or op_cat op_catA))
theorem op_mulU : OpR X (binaryOp .Mult) (rMulU X.K) := OpR.or op_mul op_rep
theorem op_eqU (hu : X.A.units + 64 < cLine) : OpR X (compareOp .Eq) (rEqU X.K) := OpR.or op_eq (op_eqD hu)
theorem op_neU (hu : X.A.units + 64 < cLine) : OpR X (compareOp .NotEq) (rNeU X.K) := OpR.or op_ne (op_neD hu)
theorem op_inU : OpR X (compareOp .In) (rInU X.K) := OpR.or op_inS op_in_seq
theorem op_ninU : OpR X (compareOp .NotIn) (rNinU X.K) := OpR.or op_notInS op_notIn_seq
theorem sl_U : SlR X (rSlU X.K) := SlR.or sl_list (SlR.or sl_str sl_tupA)
theorem hu64 {k : Nat} {A : Around} (hr : Room k A) : A.units + 64 < cLine := hr.units

/-! ### three comparisons in a chain -/
def tChain3 (r r' r'' : R2) (ta tb tc td : TE) : TE := fun σ H Q => ta σ H fun x H1 => tb σ H1 fun y H2 => r x y H2 fun z H3 => ∃ k, z = .bl k ∧
  (if k = true then tc σ H3 fun y' H4 => r' y y' H4 fun z' H5 => ∃ k', z' = .bl k' ∧ (if k' = true then td σ H5 fun w' H6 => r'' y' w' H6 Q else Q (.bl false) H5) else Q (.bl false) H3)
theorem pt_chain3 {op op' op'' : CmpOp} {r r' r'' : R2} {a b c d : Expr} {ta tb tc td : TE} {pos : Pos} (ho : OpR X (compareOp op) r) (ho' : OpR X (compareOp op') r') (ho'' : OpR X (compareOp op'') r'')
    (ha : PE X a ta) (hb : PE X b tb) (hc : PE X c tc) (hd : PE X d td)
    (hm : lastMarks [op, op', op''] [b, c, d] = false := by with_unfolding_all rfl) : PT X (.Compare a [op, op', op''] [b, c, d] pos) (tTest (tChain3 r r' r'' ta tb tc td)) := by
  refine ⟨fun pins s σ H Q I h => ?_⟩
  refine isTrue_chain (thn (ha.run pins s σ H _ I h) fun v s1 ⟨x, H1, I1, r1, q1⟩ => test_link (thn (hb.run pins s1 σ H1 _ I1 q1) fun u s2 ⟨y, H2, I2, r2, q2⟩ =>
    thn (ho pins s2 σ H2 x y v u _ I2 r1 r2 q2) fun d1 s3 ⟨z, H3, I3, r3, k, e, q3⟩ => ?_)) hm
  subst e
  cases r3
  refine wpAny_truthy_bool ?_
  cases k with
  | false =>
    obtain ⟨k', e', q'⟩ := q3
    cases e'
    exact ite_ff ⟨H3, I3, q'⟩
  | true =>
    refine ite_tt (test_link (thn (hc.run pins s3 σ H3 _ I3 q3) fun u4 s4 ⟨y4, H4, I4, r4, q4⟩ =>
      thn (ho' pins s4 σ H4 y y4 u u4 _ I4 r2 r4 q4) fun d2 s5 ⟨z5, H5, I5, r5, k5, e5, q5⟩ => ?_))
    subst e5
    cases r5
    refine wpAny_truthy_bool ?_
    cases k5 with
    | false =>
      obtain ⟨k', e', q'⟩ := q5
      cases e'
      exact ite_ff ⟨H5, I5, q'⟩
    | true =>
      refine ite_tt (test_last (thn (hd.run pins s5 σ H5 _ I5 q5) fun w6 s6 ⟨z6, H6, I6, r6, q6⟩ => thn (ho'' pins s6 σ H6 y4 z6 u4 w6 _ I6 r4 r6 q6) fun d' s7 ⟨z7, H7, I7, r7, k7, e7, q7⟩ => ?_))
      subst e7
      cases r7
      exact wpAny_truthy_bool ⟨H7, I7, q7⟩

/-! ### walks over a list, a tuple, a text -/
theorem PI.or {tg e : Expr} {w1 w2 : TI} (h1 : PI X tg e w1) (h2 : PI X tg e w2) : PI X tg e (fun σ H R => w1 σ H R ∨ w2 σ H R) := by
  refine ⟨fun pins s σ H R I h => ?_⟩
  rcases h with h | h
  · exact h1.run pins s σ H R I h
  · exact h2.run pins s σ H R I h
def iSeqU (K : PySem.W.Frag) (te : TE) : TI := fun σ H R => iList K te σ H R ∨ iTup K te σ H R ∨ iStr te σ H R
theorem pi_seqU {tg e : Expr} {te : TE} (he : PE X e te) : PI X tg e (iSeqU X.K te) := PI.or (pi_list he) (PI.or (pi_tup he) (pi_str he))
end

/-- an iterator that gives new pairs, by the library's Goes -/
def ItP (n : Nat) (f g : Nat → Option V) : It :=
  ⟨fun i _ => i < n, fun i H v H' => ∃ T x y, v = .ref T ∧ H T = none ∧ H' = upd H T (.tup [x, y]) ∧ f i = some x ∧ g i = some y, fun i _ => i = n⟩
theorem turn_pairs {P : Program} {w : World} {K : PySem.W.Frag} {tg : Expr} {it : Addr} {fp wr : List Addr} {n : Nat} {Y : Nat → Heap → Value → Heap → Prop} {St : Nat → Heap → Prop} {f g : Nat → Option V}
    (W : ∀ A : Around, A.handled = none → GoesN P w A tg it fp wr n Y St)
    (hY : ∀ i h v h', Y i h v h' → ∃ T a b x y, v = .ref T ∧ h.objs.size ≤ T ∧ h'.IsTuple T #[a, b] ∧ f i = some x ∧ g i = some y ∧ RelV x a ∧ RelV y b)
    (hself : ∀ (A : Around) (i : Nat) (s : Shared) (Q : Value → Shared → Prop) (E : Value → Shared → Prop), St i s.heap → Q (.ref it) s → wpAny (model P w) A (pyIter (.ref it)) Q E s)
    (mem : it ∈ fp) (obj : ∀ i h, St i h → ∀ b ∈ fp, ∃ o, h.get? b = some o ∧ ∀ v, o.data ≠ .cell v) : Turn P w K tg (ItP n f g) fp it St where
  mem := mem
  obj := obj
  keep := (W { handled := none } rfl).frame
  item := by
    intro X hP hw hK hc i pins s σ H E I hf st hi
    subst hP hw hK
    have G := W X.A (I.ok.hd hc)
    refine G.goes i s _ E hi st fun v h' tk hy st' hk _ => ?_
    obtain ⟨T, a, b, x, y, rfl, hT, ht, e1, e2, ra, rb⟩ := hY _ _ _ _ hy
    have hn : H T = none := I.hok.fresh hT
    have new : ObjOk X.prog X.w (upd H T (.tup [x, y])) h' T (.tup [x, y]) := ⟨by show 2 ≤ sizeLine; decide, [a, b], .cons ra (.cons rb .nil), ht⟩
    refine ⟨.ref T, _, I.turnedNew (ch := fp) (fun b o hb q => hk b o (fun z => hb (G.sub b z)) q) hf hT new, rfl, ⟨T, x, y, rfl, hn, rfl, e1, e2⟩, st', fun c hcm => ?_⟩
    have hlt : c < s.heap.objs.size := by
      obtain ⟨o, ho, _⟩ := obj i s.heap st c hcm
      exact Heap.lt_size ho
    rw [upd_ne (Nat.ne_of_lt (Nat.lt_of_lt_of_le hlt hT))]
    exact (hf c hcm).1
  done := by
    intro X hP hw hK hc i pins s σ H E I hf st hi
    subst hP hw hK
    have hi' : i = n := hi
    subst hi'
    have G := W X.A (I.ok.hd hc)
    exact G.stops s _ E st fun h' tk hk _ => I.turnedL (ch := fp) (fun b o hb q => hk b o (fun z => hb (G.sub b z)) q) hf
  self := hself
theorem walk_pairs {n : Nat} {f g : Nat → Option V} : Walk (ItP n f g) n (fun _ => True) (YPair f g) :=
  ⟨fun _ _ hi _ => hi, fun _ _ => rfl, fun _ _ _ _ _ _ y => y⟩

/-! ### zip and enumerate over texts -/
def sgn (z : Str) (i : Nat) : Option V := (z.cps[i]?).map fun c => .str ⟨#[c]⟩
theorem sgn_of {z : Str} {i c : Nat} {u : Tok} {v : Value} (h : z.cps[i]? = some c) (e : v = .str ⟨#[c]⟩ u) : sgn z i = some (.str ⟨#[c]⟩) ∧ RelV (.str ⟨#[c]⟩) v := by
  unfold sgn
  rw [h]
  exact ⟨rfl, u, e⟩
theorem striter_obj {h : Heap} {b : Addr} {ty : String} {z : Str} {t : Tok} {i : Nat} (st : h.IsStrIter b ty z t i) : ∃ o, h.get? b = some o ∧ ∀ v, o.data ≠ .cell v := by
  obtain ⟨o, e, _, d⟩ := st
  exact ⟨o, e, fun v q => by rw [d] at q; cases q⟩
def iZipS (ta : TA) : TI := fun σ H R => ta σ H fun vs H1 => ∃ y z : Str, vs = [.str y, .str z] ∧ R (ItP (min y.cps.size z.cps.size) (sgn y) (sgn z)) H1
def iEnumS (ta : TA) : TI := fun σ H R => ta σ H fun vs H1 => ∃ z : Str, vs = [.str z] ∧ R (ItP z.cps.size (fun i => some (.int (i : Nat))) (sgn z)) H1
section
variable {X : Cx}
theorem pi_zipS {e e2 : Expr} {ta : TA} {p pos tpos : Pos} {elts : List Expr} {kk : Nat} (hg : Gl X "zip") (hm : X.mg "zip" = none) (ha : PA X [e, e2] ta)
    (hs : starEach [e, e2] X.env = (false, eval e X.env) :: starEach [e2] X.env := by rfl) (hpl : (backTo pos (starEach [e2] X.env)).any (·.1) = false := by rfl) :
    PI X (.Tuple elts kk tpos) (.Call (.Name "zip" p) [e, e2] [] pos) (iZipS ta) := by
  refine ⟨fun pins s σ H R I h => ?_⟩
  refine Call_ (ld_blt I hg hm PyProof.Rows.boot_zip (PyProof.Rows.callWith_type1 (thn (ha.run pos pins s σ H _ I h) fun us s1 ⟨vs, H1, I1, r1, q1⟩ => ?_) hs hpl))
  obtain ⟨y, z, rfl, q⟩ := q1
  cases r1 with
  | cons r rr =>
    cases rr with
    | cons r' rr =>
      cases rr
      obtain ⟨t, rfl⟩ := r
      obtain ⟨t', rfl⟩ := r'
      refine zip_begins2 (begins_text y t) (begins_text z t') trivial trivial fun h' hz hTI hTO h1 h2 hsz hk => wpAny_pyIter_zip hz ?_
      have I2 : Inv X pins σ H1 { s1 with heap := h' } := I1.kept (t' := s1.toks) hk
      have St0 : ∀ {j : Addr} {x : Str} {u : Tok}, h'.get? j = some { cls := .type (strIterType x), data := .fields #[.str x u, .int 0 0] } → h'.IsStrIter j (strIterType x) x u 0 := fun e => ⟨_, e, rfl, rfl⟩
      refine ⟨s1.heap.objs.size + 4, (s1.heap.objs.size + 4) :: (s1.heap.objs.size + 2) :: (s1.heap.objs.size + 3) :: ([s1.heap.objs.size] ++ [s1.heap.objs.size + 1]),
        fun i h => IsZip h (s1.heap.objs.size + 4) (s1.heap.objs.size + 2) (s1.heap.objs.size + 3) .none ∧ IsTupOf2 h (s1.heap.objs.size + 2) (.ref s1.heap.objs.size) (.ref (s1.heap.objs.size + 1)) ∧ (∃ a1 a2, IsTupOf2 h (s1.heap.objs.size + 3) a1 a2) ∧
          h.IsStrIter s1.heap.objs.size (strIterType y) y t i ∧ h.IsStrIter (s1.heap.objs.size + 1) (strIterType z) z t' i, _, H1, rfl, I2,
        turn_pairs (n := min y.cps.size z.cps.size) (fun A hA => GoesN.zip2 (zip_sep2 (fp1 := []) (fp2 := []) (fun _ hb => absurd hb List.not_mem_nil) fun _ hb => absurd hb List.not_mem_nil) (Draws.text (A := A.in1) hA _ y t) (Draws.text (A := A.in1) hA _ z t')) ?hY (fun A i s Q E st h => wpAny_pyIter_zip st.1 h) (by simp) ?obj,
        ⟨hz, hTI, ⟨_, _, hTO⟩, St0 h1, St0 h2⟩, fun b hb => ?_, q⟩
      case hY =>
        rintro i h v h' ⟨T, a, b, rfl, hT, ⟨c, u, hc, ea⟩, ⟨c', u', hc', eb⟩, ht⟩
        obtain ⟨e1, r1⟩ := sgn_of hc ea
        obtain ⟨e2, r2⟩ := sgn_of hc' eb
        exact ⟨T, a, b, _, _, rfl, hT, ht, e1, e2, r1, r2⟩
      case obj =>
        rintro i h ⟨hz, hTI, ⟨a1, a2, hTO⟩, s1', s2'⟩ b hb
        have e' : b = s1.heap.objs.size + 4 ∨ b = s1.heap.objs.size + 2 ∨ b = s1.heap.objs.size + 3 ∨ b = s1.heap.objs.size ∨ b = s1.heap.objs.size + 1 := by simpa using hb
        rcases e' with q | q | q | q | q
        · rw [q]; exact ⟨_, hz, fun v z => nomatch z⟩
        · rw [q]; exact ⟨_, hTI, fun v z => nomatch z⟩
        · rw [q]; exact ⟨_, hTO, fun v z => nomatch z⟩
        · rw [q]; exact striter_obj s1'
        · rw [q]; exact striter_obj s2'
      · have e' : b = s1.heap.objs.size + 4 ∨ b = s1.heap.objs.size + 2 ∨ b = s1.heap.objs.size + 3 ∨ b = s1.heap.objs.size ∨ b = s1.heap.objs.size + 1 := by simpa using hb
        have hle : s1.heap.objs.size ≤ b := by
          rcases e' with z | z | z | z | z
          · rw [z]; exact Nat.le_add_right _ _
          · rw [z]; exact Nat.le_add_right _ _
          · rw [z]; exact Nat.le_add_right _ _
          · rw [z]; exact Nat.le_refl _
          · rw [z]; exact Nat.le_add_right _ _
        exact I1.fpOk hle (I1.hok.fresh hle)
theorem pi_enumS {e : Expr} {ta : TA} {p pos tpos : Pos} {elts : List Expr} {kk : Nat} (hg : Gl X "enumerate") (hm : X.mg "enumerate" = none) (ha : PA X [e] ta) (hs : starEach [e] X.env = [(false, eval e X.env)] := by rfl) :
    PI X (.Tuple elts kk tpos) (.Call (.Name "enumerate" p) [e] [] pos) (iEnumS ta) := by
  refine ⟨fun pins s σ H R I h => ?_⟩
  refine Call_ (ld_blt I hg hm boot_enumerate (PyProof.Rows.callWith_type1 (thn (ha.run pos pins s σ H _ I h) fun us s1 ⟨vs, H1, I1, r1, q1⟩ => ?_) hs rfl))
  obtain ⟨z, rfl, q⟩ := q1
  cases r1 with
  | cons r rr =>
    cases rr
    obtain ⟨t, rfl⟩ := r
    refine call_enumerate_str fun h' he hit hsz hk => wpAny_pyIter_enum he ?_
    have I2 : Inv X pins σ H1 { s1 with heap := h' } := I1.kept (t' := s1.toks) hk
    have hne : s1.heap.objs.size + 1 ∉ [s1.heap.objs.size] := by
      intro hm
      have := List.mem_singleton.mp hm
      exact absurd this (Nat.succ_ne_self _)
    refine ⟨s1.heap.objs.size + 1, (s1.heap.objs.size + 1) :: [s1.heap.objs.size],
      fun i h => (∃ old, IsEnum h (s1.heap.objs.size + 1) s1.heap.objs.size (0 + (i : Int)) old) ∧ h.IsStrIter s1.heap.objs.size (strIterType z) z t i, _, H1, rfl, I2,
      turn_pairs (n := z.cps.size) (fun A hA => GoesN.enumFrom 0 (Draws.text (A := A.in1) hA s1.heap.objs.size z t) (s1.heap.objs.size + 1) (Nat.succ_ne_self _) hne (by simp)) ?hY (fun A i s Q E st h => wpAny_pyIter_enum st.1.choose_spec h) (by simp) ?obj,
      ⟨⟨.none, he⟩, hit⟩, fun b hb => ?_, q⟩
    case hY =>
      rintro i h v h' ⟨T, u, x, rfl, hT, ⟨c, u', hc, ea⟩, ht⟩
      obtain ⟨e1, r1⟩ := sgn_of hc ea
      exact ⟨T, _, x, .int (i : Nat), _, rfl, hT, ht, rfl, e1, ⟨u, by simp⟩, r1⟩
    case obj =>
      rintro i h ⟨⟨old, he⟩, s1'⟩ b hb
      have e' : b = s1.heap.objs.size + 1 ∨ b = s1.heap.objs.size := by simpa using hb
      rcases e' with q | q
      · rw [q]; exact ⟨_, he, fun v z => nomatch z⟩
      · rw [q]; exact striter_obj s1'
    · have e' : b = s1.heap.objs.size + 1 ∨ b = s1.heap.objs.size := by simpa using hb
      have hle : s1.heap.objs.size ≤ b := by
        rcases e' with z | z
        · rw [z]; exact Nat.le_add_right _ _
        · rw [z]; exact Nat.le_refl _
      exact I1.fpOk hle (I1.hok.fresh hle)
def iZipU (K : PySem.W.Frag) (ta : TA) : TI := fun σ H R => iZip K ta σ H R ∨ iZipS ta σ H R
def iEnumU (K : PySem.W.Frag) (ta : TA) : TI := fun σ H R => iEnum K ta σ H R ∨ iEnumS ta σ H R
theorem pi_zipU {e e2 : Expr} {ta : TA} {p pos tpos : Pos} {elts : List Expr} {kk : Nat} (hg : Gl X "zip") (hm : X.mg "zip" = none) (ha : PA X [e, e2] ta)
    (hs : starEach [e, e2] X.env = (false, eval e X.env) :: starEach [e2] X.env := by rfl) (hpl : (backTo pos (starEach [e2] X.env)).any (·.1) = false := by rfl) :
    PI X (.Tuple elts kk tpos) (.Call (.Name "zip" p) [e, e2] [] pos) (iZipU X.K ta) := PI.or (pi_zip hg hm ha hs hpl) (pi_zipS hg hm ha hs hpl)
theorem pi_enumU {e : Expr} {ta : TA} {p pos tpos : Pos} {elts : List Expr} {kk : Nat} (hg : Gl X "enumerate") (hm : X.mg "enumerate" = none) (ha : PA X [e] ta) (hs : starEach [e] X.env = [(false, eval e X.env)] := by rfl) :
    PI X (.Tuple elts kk tpos) (.Call (.Name "enumerate" p) [e] [] pos) (iEnumU X.K ta) := PI.or (pi_enum hg hm ha hs) (pi_enumS hg hm ha hs)
end
end Px

namespace Px
open PySem PySem.Spec PyProof.Rows L2
section
variable {X : Cx}
theorem PE.or {e : Expr} {t1 t2 : TE} (h1 : PE X e t1) (h2 : PE X e t2) : PE X e (fun σ H Q => t1 σ H Q ∨ t2 σ H Q) := by
  refine ⟨fun pins s σ H Q I h => ?_⟩
  rcases h with h | h
  · exact h1.run pins s σ H Q I h
  · exact h2.run pins s σ H Q I h
/-! ### a text from behind -/
def revS (z : Str) : Str := ⟨z.cps.toList.reverse.toArray⟩
theorem rev_picked (z : Str) (t : Tok) (u : Tok) : sliceMade z t none none (some (-1, u)) = .str (revS z) := by
  unfold sliceMade slicePicked
  have h1 : ((((some ((-1 : Int), u)).map (·.1)).getD 1 == 1) && ((Builtin.Str.strSliceIndices (Option.map (·.1) (none : Option (Int × Tok))) (Option.map (·.1) (none : Option (Int × Tok))) (((some ((-1 : Int), u)).map (·.1)).getD 1) z.length).length == z.length)) = false := by
    rw [Bool.and_eq_false_iff]
    left
    rfl
  rw [h1, if_neg Bool.false_ne_true]
  have h2 : Builtin.Str.strSliceIndices (Option.map (·.1) (none : Option (Int × Tok))) (Option.map (·.1) (none : Option (Int × Tok))) (((some ((-1 : Int), u)).map (·.1)).getD 1) z.length = sliceRange ((z.length : Int) - 1) (-1) (-1) := rfl
  rw [h2, PySem.W.krv_sliceRange, PySem.W.krv_range, List.filterMap_reverse]
  have h3 : List.filterMap (fun x => z.cps[x]?) (List.range z.length) = z.cps.toList := PySem.W.krv_all z.cps
  rw [h3]
  rfl
def tRevS (te : TE) : TE := fun σ H Q => te σ H fun x H1 => ∃ z, x = .str z ∧ z.length ≤ sizeLine ∧ Q (.str (revS z)) H1
theorem pe_revS {e : Expr} {te : TE} {k : Nat} {p1 p2 p3 pos : Pos} (he : PE X e te) : PE X (.Subscript e (.Slice none none (some (.UnaryOp .USub (.Constant (.int 1) k p1) p2)) p3) pos) (tRevS te) := by
  refine ⟨fun pins s σ H Q I h => ?_⟩
  refine Subscript_ (thn (he.run pins s σ H _ I h) fun v s1 ⟨x, H1, I1, r1, q1⟩ => ?_)
  obtain ⟨z, rfl, hz, q⟩ := q1
  obtain ⟨t, rfl⟩ := r1
  have hst : PO X (some (.UnaryOp .USub (.Constant (.int 1) k p1) p2)) (tPart (tUn rNegI (tC (.int 1)))) := po_some (pe_un un_neg pe_int)
  refine wpAny_Slice (thn (po_none.run pins s1 σ H1 (fun o G => o = none ∧ G = H1) I1 ⟨rfl, rfl⟩) fun vl s2 ⟨l, H2, I2, pl, el, e2⟩ => ?_)
  subst el e2
  refine thn (po_none.run pins s2 σ H2 (fun o G => o = none ∧ G = H2) I2 ⟨rfl, rfl⟩) fun vu s3 ⟨u, H3, I3, pu, eu, e3⟩ => ?_
  subst eu e3
  refine thn (hst.run pins s3 σ H3 (fun o G => o = some (-1) ∧ G = H3) I3 ⟨1, rfl, -1, rfl, rfl, rfl⟩) fun vs s4 ⟨o, H4, I4, ps, eo, e4⟩ => ?_
  subst eo e4
  have I5 : Inv X pins σ H4 { s4 with heap := s4.heap.push { cls := .type "slice", data := .fields #[vl, vu, vs] } } := I4.kept (t' := s4.toks) fun b ob q => Heap.get?_push_of_some _ q
  obtain ⟨l, rfl, e1⟩ := IsPart.raw pl
  obtain ⟨u, rfl, e2⟩ := IsPart.raw pu
  obtain ⟨w3, rfl, e3⟩ := IsPart.raw ps
  cases l with
  | some p => cases e1
  | none =>
    cases u with
    | some p => cases e2
    | none =>
      cases w3 with
      | none => cases e3
      | some p =>
        obtain ⟨i, tk⟩ := p
        have hi : i = (-1 : Int) := Option.some.inj e3
        subst hi
        refine tail_any (ops := [.ref s4.heap.objs.size, .str z t]) (typeIs_str _ _ _) (F.slot_str_getitem.lookup) ?_ (by with_unfolding_all rfl)
        refine wpAny_getItem_str_slice (l := none) (u := none) (st := some (-1, tk)) ⟨_, Heap.get?_push_size _ rfl, rfl, rfl⟩ rfl ?_
        rw [rev_picked]
        refine ⟨?_, .str _, H4, I5.tok _, ⟨_, rfl⟩, q⟩
        have e : (revS z).length = z.length := by
          unfold revS
          show (List.toArray z.cps.toList.reverse).size = z.cps.size
          simp
        omega
def tRevU (K : PySem.W.Frag) (te : TE) : TE := fun σ H Q => tRevL K te σ H Q ∨ tRevS te σ H Q
theorem pe_rev {e : Expr} {te : TE} {k : Nat} {p1 p2 p3 pos : Pos} (he : PE X e te) : PE X (.Subscript e (.Slice none none (some (.UnaryOp .USub (.Constant (.int 1) k p1) p2)) p3) pos) (tRevU X.K te) := PE.or (pe_revL he) (pe_revS he)

/-! ### repr -/
def rRepr (K : PySem.W.Frag) : List V → Hp → VK → Prop := fun xs H Q => ∃ x d, xs = [x] ∧ Dp K H x d ∧ d.showable = true ∧ d.shown.length ≤ sizeLine ∧ d.depth ≤ 60 ∧ Q (.str d.shown) H
mutual
theorem dp_noDict {K : PySem.W.Frag} {H : Hp} : ∀ (d : PyData) (v : V), Dp K H v d → d.hasDict = false
  | .none, _, _ => by simp only [PyData.hasDict]
  | .bool _, _, _ => by simp only [PyData.hasDict]
  | .int _, _, _ => by simp only [PyData.hasDict]
  | .str _, _, _ => by simp only [PyData.hasDict]
  | .list ds, _, h => by
    cases h with
    | lst _ ha => simp only [PyData.hasDict]; exact dp_noDictAll ds _ ha
  | .tuple ds, _, h => by
    cases h with
    | tup _ ha => simp only [PyData.hasDict]; exact dp_noDictAll ds _ ha
  | .dict _, _, h => by cases h
theorem dp_noDictAll {K : PySem.W.Frag} {H : Hp} : ∀ (ds : List PyData) (vs : List V), DpAll K H vs ds → PyData.hasDictAll ds = false
  | [], _, _ => by simp only [PyData.hasDictAll]
  | d :: ds, _, h => by
    cases h with
    | cons h1 h2 =>
      simp only [PyData.hasDictAll]
      rw [dp_noDict d _ h1, dp_noDictAll ds _ h2]
      rfl
end
theorem c_repr (hg : X.A.guards = some []) (hu : X.A.units + 64 < cLine) : CallR X (.builtin "repr") (rRepr X.K) := by
  intro pins s σ H xs us Q I r h
  obtain ⟨x, d, rfl, hd, hs, hz, hdep, q⟩ := h
  obtain ⟨u, rfl, rx⟩ := vals1 r
  obtain ⟨as, rd⟩ := Dp.reads I d x u hd rx
  have hnd := dp_noDict d x hd
  cases x with
  | ref a =>
    obtain rfl : u = .ref a := rx
    refine repr_of_reads' rd hs (fun h => by rw [hnd] at h; cases h) hg (by omega) (fun _ _ e => e) (fun h' u tk hk => ⟨.str _, H, I.kept (t' := tk) hk, ⟨u, rfl⟩, q⟩) hz
  | non =>
    cases hd
    obtain rfl : u = .none := rx
    simp only [PyData.shown] at q
    exact PySem.P.repr_of_none ⟨.str _, H, I.tok _, ⟨_, rfl⟩, q⟩
  | bl b =>
    cases hd
    obtain rfl : u = .bool b := rx
    simp only [PyData.shown] at q
    exact PySem.P.repr_of_bool ⟨.str _, H, I.tok _, ⟨_, rfl⟩, q⟩
  | int i =>
    cases hd
    obtain ⟨t, rfl⟩ := rx
    simp only [PyData.shown] at q
    simp only [PyData.showable] at hs
    exact PySem.P.repr_of_int (of_decide_eq_true hs) ⟨.str _, H, I.tok _, ⟨_, rfl⟩, q⟩
  | str z =>
    cases hd
    obtain ⟨t, rfl⟩ := rx
    simp only [PyData.shown] at q hz
    exact PySem.P.repr_of_str ⟨.str _, H, I.tok _, ⟨_, rfl⟩, q⟩ hz
  | byt b => cases hd
  | flt b => cases hd
  | ty n => cases hd

/-! ### contracts that know that no repr is under way -/
structure FnG (P : Program) (w : World) (K : PySem.W.Frag) (mg : Str → Option Value) (base : Heap) (CX : CXT) (k : Nat) (f : Addr) (fd : FuncData) (ps : List Str) (sp : Sp) : Prop where
  len : ∀ vs H Q E, sp vs H Q E → vs.length = ps.length
  run : ∀ (A : Around) (outer : List Env) (s : Shared) (H : Hp) (args : Args) (us : List Value) (vs : List V) (Q : VK) (E : XK), A.guards = some [] → Room k A → Env0 P w K mg base A outer s H → BindsTo s fd args (ps.zip us) →
    Vals vs us → sp vs H Q E → codeAny (model P w) A (.call (.ref f) args) (CR CX outer P w H s Q E) s
theorem FnG.of {P : Program} {w : World} {K : PySem.W.Frag} {mg : Str → Option Value} {base : Heap} {CX : CXT} {k : Nat} {f : Addr} {fd : FuncData} {ps : List Str} {sp : Sp} (F : FnOk P w K mg base CX k f fd ps sp) : FnG P w K mg base CX k f fd ps sp :=
  ⟨F.len, fun A outer s H args us vs Q E _ => F.run A outer s H args us vs Q E⟩
end
section
variable {X : Cx} {CX : CXT} {k : Nat} {f : Addr} {fd : FuncData} {ps : List Str} {sp : Sp} {ds : List Value} {dvs : List V} {E : XK} {x : Str} {p pos : Pos} {e : Expr} {es : List Expr} {t : TA}
theorem run_g {pins : List (Addr × Obj)} {σ : L2.St} {H : Hp} {s : Shared} {Q : VK} {us : List Value} {vs : List V} (F : FnG X.prog X.w X.K X.mg X.base CX k f fd ps sp) (hG : X.A.guards = some []) (hr : Room k X.A) (hb : Binds X.K fd ps ds) (hd : Vals dvs ds)
    (hx : Passes CX X E) (I : Inv X pins σ H s) (r : Vals vs us) (h : sp (vs ++ dvs) H Q E) : wpAny (model X.prog X.w) X.A (call (.ref f) us) (EP X pins σ Q) X.xe s := by
  have r2 : Vals (vs ++ dvs) (us ++ ds) := r.append hd
  have hl : (us ++ ds).length = ps.length := r2.length.symm.trans (F.len _ _ _ _ h)
  have go := F.run X.A X.stack s H ⟨us, []⟩ (us ++ ds) (vs ++ dvs) Q E hG hr I.env0 (hb s us I.kIn hl) r2 h
  refine wpAny_call (codeAny_mono go fun r s' hq => ?_)
  match r, hq with
  | .error e, hq => exact hx pins σ H s e s' I hq
  | .ok (.ret u), hq => exact I.after hq
  | .ok .next, hq => exact hq.elim
  | .ok .brk, hq => exact hq.elim
  | .ok .cont, hq => exact hq.elim
theorem pe_callG (F : FnG X.prog X.w X.K X.mg X.base CX k f fd ps sp) (hG : X.A.guards = some []) (hr : Room k X.A) (hg : Gl X x) (hm : X.mg x = some (.ref f)) (hk : PySem.W.keepIn X.K (.ref f) = true) (hb : Binds X.K fd ps ds) (hd : Vals dvs ds) (hx : Passes CX X E)
    (ha : PA X (e :: es) t) (hdb : (x == ("__debug__" : Str)) = false := by decide) (he : starEach (e :: es) X.env = (false, eval e X.env) :: starEach es X.env := by rfl) (hpl : (backTo pos (starEach es X.env)).any (·.1) = false := by rfl) :
    PE X (.Call (.Name x p) (e :: es) [] pos) (tCall sp dvs E t) := by
  refine ⟨fun pins s σ H Q I h => wpAny_Call_Name_kw (ld_glob I hg hm ?_ hdb)⟩
  exact PySem.W.callWith_K (h₀ := X.base) I.ok.mod.kin hk (thn (ha.run pos pins s σ H _ I h) fun us s1 ⟨vs, H1, I1, r, q⟩ => ⟨I1.kIn, run_g F hG hr hb hd hx I1 r q⟩) he hpl
theorem pe_callG0 (F : FnG X.prog X.w X.K X.mg X.base CX k f fd ps sp) (hG : X.A.guards = some []) (hr : Room k X.A) (hg : Gl X x) (hm : X.mg x = some (.ref f)) (hk : PySem.W.keepIn X.K (.ref f) = true) (hb : Binds X.K fd ps ds) (hd : Vals dvs ds) (hx : Passes CX X E)
    (hdb : (x == ("__debug__" : Str)) = false := by decide) : PE X (.Call (.Name x p) [] [] pos) (tCall sp dvs E tNil) :=
  ⟨fun pins s σ H Q I h => wpAny_Call_Name_kw (ld_glob I hg hm (PySem.W.callWith_K0 I.kIn hk (run_g (us := []) F hG hr hb hd hx I .nil h)) hdb)⟩
end
section
variable {P : Program} {w : World} {K : PySem.W.Frag} {mg : Str → Option Value} {base : Heap} {x qual : Str} {params : Arguments} {body : List Stmt} {scope : Scope} {dvs : List V} {kws : List (Str × V)} {f : Addr} {fd : FuncData}
theorem fnG_ok {CX : CXT} {N ps : List Str} {k : Nat} {sp : Sp} (F : FunD K x qual params body scope dvs kws f fd) (S : FnScope N ps scope) (len : ∀ vs H Q E, sp vs H Q E → vs.length = ps.length)
    (hbody : ∀ (cdv : Value) (A : Around) (outer : List Env) (s : Shared) (H : Hp) (vs : List V) (Q : VK) (E : XK), (A.deeper (envOfC qual scope s.heap.objs.size f cdv)).guards = some [] → Room k (A.deeper (envOfC qual scope s.heap.objs.size f cdv)) → sp vs H Q E →
      ∃ t, PSs (cxOf CX P w K mg base N qual scope f cdv A outer s H E) body t ∧ t { nx := fun _ H' => Q .non H', rt := Q } (start N vs) H) : FnG P w K mg base CX (k + 1) f fd ps sp := by
  obtain ⟨oc, od, dV, kV, doc, pm, an, cdv, ct, osl, rfl, lk, hcd, _, _⟩ := F.ex
  refine ⟨len, fun A outer s H args us vs Q E hG hr e0 hb r hsp => ?_⟩
  have KX : K.In s.heap := e0.mod.kin.keeps fun b o e => (e0.bs b o e).1
  have lim : s.heap.NoLimit := e0.mod.nolimit.keeps fun b o e => (e0.bs b o e).1
  have hkind : ∀ y ∈ ps.zip us, scope.names.lookup y.1 = some .local ∨ (scope.names.lookup y.1 = some .cell ∧ ((cellsFrom (s.heap.objs.size + 1) scope.names []).lookup y.1).isSome = true) := fun y hy =>
    (S.par y.1 (List.of_mem_zip (show (y.1, y.2) ∈ ps.zip us from hy)).1).imp id fun q => ⟨q, PySem.W.cellsFrom_some _ _ _ (.inl q)⟩
  refine codeAny_call_function hr.depth (KX _ _ lk) rfl S.co S.gen rfl (PySem.W.codeRec_of KX hcd) (hb _ _ _ _ (wpAny_newFunctionEnv_cells S.kind hkind fun env he s1 x => ?_))
  subst he
  refine ⟨lim.keeps x.toInCall.keep, codeAny_func ?_⟩
  obtain ⟨t, ht, hq⟩ := hbody cdv A outer s H vs Q E hG (hr.deeper _) hsp
  have I : Inv (cxOf CX P w K mg base N qual scope f cdv A outer s H E) [] (start N vs) H s1 := inv_start S hr.hd e0 (len _ _ _ _ hsp) r x
  refine wpAny_mono (ht.run [] s1 (start N vs) H _ I hq) (fun fl s' hs => ?_) fun e s' hs => hs
  match fl, hs with
  | .ret u, ⟨v, σ', H', J, rv, q⟩ => exact ⟨v, H', J.os, J.bare, J.base, J.hok, rv, q⟩
  | .next, ⟨σ', H', J, q⟩ => exact ⟨V.non, H', J.os, J.bare, J.base, J.hok, rfl, q⟩
  | .brk, ⟨_, _, _, q⟩ => exact q.elim
  | .cont, ⟨_, _, _, q⟩ => exact q.elim
end
end Px

namespace Px
open PySem PySem.Spec PyProof.Rows L2
/-! ### built-ins by any kind of value -/
def rLenU (K : PySem.W.Frag) : List V → Hp → VK → Prop := fun xs H Q => ∃ x n, xs = [x] ∧ LenV K x H n ∧ Q (.int n) H
def rAbs : List V → Hp → VK → Prop := fun xs H Q => ∃ i, xs = [.int i] ∧ Q (.int (if i < 0 then -i else i)) H
def rMax2 : List V → Hp → VK → Prop := fun xs H Q => ∃ i j, xs = [.int i, .int j] ∧ Q (.int (if j > i then j else i)) H
def rMin2 : List V → Hp → VK → Prop := fun xs H Q => ∃ i j, xs = [.int i, .int j] ∧ Q (.int (if j < i then j else i)) H
def rStrI : List V → Hp → VK → Prop := fun xs H Q => ∃ i, xs = [.int i] ∧ i.natAbs.log2 < 1920 ∧ Q (.str (toString i)) H
def rListOf (K : PySem.W.Frag) : List V → Hp → VK → Prop := fun xs H Q => ∃ p ys, xs = [.ref p] ∧ (SqL K H p ys ∨ SqT K H p ys) ∧ ∀ l, H l = none → Q (.ref l) (upd H l (.lst ys))
def rOrd : List V → Hp → VK → Prop := fun xs H Q => ∃ i : Nat, xs = [.str ⟨#[i]⟩] ∧ Q (.int i) H
def rJoin (K : PySem.W.Frag) : V → List V → Hp → VK → Prop := fun x xs H Q => ∃ a p, ∃ ys : List Str, x = .str a ∧ xs = [.ref p] ∧ (SqL K H p (ys.map V.str) ∨ SqT K H p (ys.map V.str)) ∧
  (ys.map (·.length)).sum + ys.length * a.length ≤ 16777216 ∧ Q (.str (Txt.join a ys)) H
def tJoinU (K : PySem.W.Frag) (to te : TE) : TE := tM1 (rJoin K) to te
section
variable {X : Cx}
theorem c_lenU : CallR X (.builtin "len") (rLenU X.K) := call_len
theorem c_abs : CallR X (.builtin "abs") rAbs := call_abs
theorem c_max2 (hc : X.calm = true) : CallR X (.builtin "max") rMax2 := call_max2 hc
theorem c_min2 (hc : X.calm = true) : CallR X (.builtin "min") rMin2 := call_min2 hc
/-! ### x += y -/
def rIaddS : TIp := fun x y H Q => ∃ i j, x = .str i ∧ y = .str j ∧ i.length + j.length ≤ sizeLine ∧ Q (.str (i ++ j)) H
def rIaddU (K : PySem.W.Frag) : TIp := fun x y H Q => ipI (fun i j => i + j) x y H Q ∨ rIaddS x y H Q
theorem PIp.or {op : Operator} {t1 t2 : TIp} (h1 : PIp X op t1) (h2 : PIp X op t2) : PIp X op (fun x y H Q => t1 x y H Q ∨ t2 x y H Q) := fun pins s σ H x y v u Q I rx ry h => by
  rcases h with h | h
  · exact h1 pins s σ H x y v u Q I rx ry h
  · exact h2 pins s σ H x y v u Q I rx ry h
theorem ip_addU : PIp X .Add (rIaddU X.K) := PIp.or ip_add fun pins s σ H x y v u Q I rx ry h => iop_add_str pins s σ H x y v u Q I rx ry h
end
section
variable {K : PySem.W.Frag} {σ : S} {H : Hp} {Q : VK} {D : Ends} {t u : TS} {ta tb tc td te : TE} {x y v : V} {tr : TA} {i j : Int}
theorem r_addUI (h : Q (.int (i + j)) H) : rAddU K (.int i) (.int j) H Q := .inl ⟨i, j, rfl, rfl, h⟩
theorem r_addUS {a b : Str} (h1 : a.length + b.length ≤ sizeLine) (h : Q (.str (a ++ b)) H) : rAddU K (.str a) (.str b) H Q := .inr (.inl ⟨a, b, rfl, rfl, h1, h⟩)
theorem r_addUL {l b : Addr} {xs zs : List V} (h1 : H l = some (.lst xs)) (h2 : H b = some (.lst zs)) (h3 : xs.length + zs.length ≤ sizeLine) (h : ∀ p, H p = none → Q (.ref p) (upd H p (.lst (xs ++ zs)))) : rAddU K (.ref l) (.ref b) H Q :=
  .inr (.inr (.inl ⟨l, b, xs, zs, rfl, rfl, h1, h2, h3, h⟩))
theorem r_mulUI (h1 : CMul i j) (h : Q (.int (i * j)) H) : rMulU K (.int i) (.int j) H Q := .inl ⟨i, j, rfl, rfl, h1, h⟩
theorem r_mulUL {l : Addr} {xs : List V} (h1 : H l = some (.lst xs)) (h2 : -(2 ^ 63) ≤ i ∧ i < 2 ^ 63) (h3 : xs.length * i.toNat ≤ sizeLine) (h : ∀ p, H p = none → Q (.ref p) (upd H p (.lst (List.replicate i.toNat xs).flatten))) : rMulU K (.ref l) (.int i) H Q :=
  .inr ⟨l, i, xs, rfl, rfl, h1, h2.1, h2.2, h3, h⟩
theorem r_eqUI (h : Q (.bl (decide (i = j))) H) : rEqU K (.int i) (.int j) H Q := .inl (r_eqI h)
theorem r_eqUS {a b : Str} (h : Q (.bl (decide (a = b))) H) : rEqU K (.str a) (.str b) H Q := .inl (r_eqS h)
theorem r_eqUB {a b : Bool} (h : Q (.bl (decide (a = b))) H) : rEqU K (.bl a) (.bl b) H Q := .inl (r_eqB h)
theorem r_neUI (h : Q (.bl (!decide (i = j))) H) : rNeU K (.int i) (.int j) H Q := .inl (r_neI h)
theorem r_neUS {a b : Str} (h : Q (.bl (!decide (a = b))) H) : rNeU K (.str a) (.str b) H Q := .inl (r_neS h)
theorem r_eqUD {d e : PyData} (h1 : Dp K H x d) (h2 : Dp K H y e) (h3 : SeqAt.shaped d = true) (h4 : SeqAt.shaped e = true) (h : Q (.bl (PyData.eqv d e)) H) : rEqU K x y H Q := .inr ⟨d, e, h1, h2, h3, h4, h⟩
theorem r_neUD {d e : PyData} (h1 : Dp K H x d) (h2 : Dp K H y e) (h3 : SeqAt.shaped d = true) (h4 : SeqAt.shaped e = true) (h : Q (.bl (!PyData.eqv d e)) H) : rNeU K x y H Q := .inr ⟨d, e, h1, h2, h3, h4, h⟩
theorem r_lenUL {a : Addr} {xs : List V} (h1 : SqL K H a xs) (h : Q (.int xs.length) H) : rLenU K [.ref a] H Q := ⟨_, xs.length, rfl, .inl ⟨xs, h1, rfl⟩, h⟩
theorem r_lenUT {a : Addr} {xs : List V} (h1 : SqT K H a xs) (h : Q (.int xs.length) H) : rLenU K [.ref a] H Q := ⟨_, xs.length, rfl, .inr ⟨xs, h1, rfl⟩, h⟩
theorem r_lenUS {z : Str} (h1 : z.length ≤ sizeLine) (h : Q (.int z.length) H) : rLenU K [.str z] H Q := ⟨_, z.length, rfl, ⟨h1, rfl⟩, h⟩
theorem r_abs (h : Q (.int (if i < 0 then -i else i)) H) : rAbs [.int i] H Q := ⟨i, rfl, h⟩
theorem r_max2 (h : Q (.int (if j > i then j else i)) H) : rMax2 [.int i, .int j] H Q := ⟨i, j, rfl, h⟩
theorem r_min2 (h : Q (.int (if j < i then j else i)) H) : rMin2 [.int i, .int j] H Q := ⟨i, j, rfl, h⟩
theorem r_strI (h1 : i.natAbs.log2 < 1920) (h : Q (.str (toString i)) H) : rStrI [.int i] H Q := ⟨i, rfl, h1, h⟩
theorem r_listL {a : Addr} {xs : List V} (h1 : SqL K H a xs) (h : ∀ l, H l = none → Q (.ref l) (upd H l (.lst xs))) : rListOf K [.ref a] H Q := ⟨a, xs, rfl, .inl h1, h⟩
theorem r_min {a : Addr} {ns : List Int} (h1 : SqL K H a (ns.map V.int)) (h2 : 0 < ns.length) (h : ∀ m, m ∈ ns → (∀ y, y ∈ ns → m ≤ y) → Q (.int m) H) : rMin K [.ref a] H Q := ⟨a, ns, rfl, h1, h2, h⟩
theorem r_isi {c : V} {tv cu : Value} {b : Bool} (h1 : ClsV c cu) (h2 : TyX K H x tv) (h3 : PySem.W.kitOne K tv cu = some b) (h : Q (.bl b) H) : rIsi K [x, c] H Q := ⟨x, c, tv, cu, b, rfl, h1, h2, h3, h⟩
theorem r_repr {d : PyData} (h1 : Dp K H x d) (h2 : d.showable = true) (h3 : d.shown.length ≤ sizeLine) (h4 : d.depth ≤ 60) (h : Q (.str d.shown) H) : rRepr K [x] H Q := ⟨x, d, rfl, h1, h2, h3, h4, h⟩
theorem r_sl {r : V → Option Int → Option Int → Hp → VK → Prop} {tl th : TO} (h : te σ H fun x H1 => tl σ H1 fun l H2 => th σ H2 fun u H3 => r x l u H3 Q) : tSl r te tl th σ H Q := h
theorem r_noPart {P : Option Int → Hp → Prop} (h : P none H) : tNoPart σ H P := h
theorem r_part {P : Option Int → Hp → Prop} (h : te σ H fun x H1 => ∃ i, x = .int i ∧ P (some i) H1) : tPart te σ H P := h
theorem r_int {P : Int → Prop} (h : P i) : ∃ k, V.int i = V.int k ∧ P k := ⟨i, rfl, h⟩
theorem r_slUL {lo hi : Option Int} {a : Addr} {xs : List V} (h1 : SqL K H a xs) (h : ∀ p, H p = none → Q (.ref p) (upd H p (.lst (cutV xs lo hi)))) : rSlU K (.ref a) lo hi H Q := .inl ⟨a, xs, rfl, h1, h⟩
theorem r_slUS {lo hi : Option Int} {z : Str} (h1 : z.length ≤ sizeLine) (h : Q (.str (cutS z lo hi)) H) : rSlU K (.str z) lo hi H Q := .inr (.inl ⟨z, rfl, h1, h⟩)
theorem r_bm {T : String} {r : V → List V → Hp → VK → Prop} (h : ta σ H fun x H1 => tyV K T x H1 ∧ tr σ H1 fun xs H2 => r x xs H2 Q) : tBM K T r ta tr σ H Q := h
theorem r_tyL {a : Addr} {xs : List V} (h1 : SqL K H a xs) : tyV K "list" (.ref a) H := .inl ⟨rfl, _, h1⟩
theorem r_append {p : Addr} {xs : List V} (h1 : H p = some (.lst xs)) (h2 : xs.length < sizeLine) (h : Q .non (upd H p (.lst (xs ++ [y])))) : rAppend (.ref p) [y] H Q := ⟨p, xs, y, rfl, rfl, h1, h2, h⟩
theorem r_join {z : Str} (h : te σ H fun y H2 => rJoin K (.str z) [y] H2 Q) (h0 : ta = tC (.str z)) : tJoinU K ta te σ H Q := by
  subst h0
  exact ⟨⟨z, rfl⟩, h⟩
theorem r_chain3 {r r' r'' : R2} (h : ta σ H fun x H1 => tb σ H1 fun y H2 => r x y H2 fun z H3 => ∃ k, z = .bl k ∧
  (if k = true then tc σ H3 fun y' H4 => r' y y' H4 fun z' H5 => ∃ k', z' = .bl k' ∧ (if k' = true then td σ H5 fun w' H6 => r'' y' w' H6 Q else Q (.bl false) H5) else Q (.bl false) H3)) : tChain3 r r' r'' ta tb tc td σ H Q := h
theorem r_iaddI {P : V → Hp → Prop} (h : P (.int (i + j)) H) : rIaddU K (.int i) (.int j) H P := .inl ⟨i, j, rfl, rfl, h⟩
theorem r_iaddS {a b : Str} {P : V → Hp → Prop} (h1 : a.length + b.length ≤ sizeLine) (h : P (.str (a ++ b)) H) : rIaddU K (.str a) (.str b) H P := .inr ⟨a, b, rfl, rfl, h1, h⟩
def tFors (J : It) (g : TG) (tb : TS) (D : Ends) (σ : S) (H : Hp) : Prop := ∃ W : Nat → Nat → S → Hp → Prop, (∃ m, W 0 m σ H) ∧ ∀ i m σ H, W i m σ H →
  (J.stop i H ∧ D.nx σ H) ∨ (J.go i H ∧ ∃ N : S → Hp → Prop, (∀ σ' H', N σ' H' → ∃ m', m' < m ∧ W (i + 1) m' σ' H') ∧ ∀ x H', J.yld i H x H' → g x σ H' fun σ2 H2 => tb { D with nx := N, ct := N, bk := D.nx } σ2 H2)
theorem r_for {wi : TI} {g : TG} {tb : TS} (h : wi σ H fun J H1 => tFors J g tb D σ H1) : tFor wi g tb D σ H := h
theorem f_it {J : It} {n : Nat} {G : Hp → Prop} {Y : Nat → Hp → V → Hp → Prop} {g : TG} {tb : TS} (w : Walk J n G Y) (Pv : Nat → S → Hp → Prop) (h0 : Pv 0 σ H) (hG : ∀ i σ H, i ≤ n → Pv i σ H → G H)
    (hs : ∀ i x σ H H', i < n → Pv i σ H → Y i H x H' → g x σ H' fun σ2 H2 => tb { D with nx := Pv (i + 1), ct := Pv (i + 1), bk := D.nx } σ2 H2) (hd : ∀ σ H, Pv n σ H → D.nx σ H) : tFors J g tb D σ H := for_it w Pv h0 hG hs hd
def tLcs (J : It) (g : TG) (tt : TT) (te : TE) (vs : List Nat) (σ : S) (H1 : Hp) (D : Addr) (Qd : Hp → Prop) : Prop := ∃ W : Nat → Nat → Hp → Prop, (∃ m, W 0 m (upd H1 D (.lst []))) ∧ ∀ i m H, W i m H →
  (J.stop i H ∧ Qd H) ∨ (J.go i H ∧ ∃ Nx : Hp → Prop, (∀ H', Nx H' → ∃ m', m' < m ∧ W (i + 1) m' H') ∧ ∀ x H', J.yld i H x H' → g x (wipe σ vs) H' fun σ2 H2 => wipe σ2 vs = wipe σ vs ∧ tt σ2 H2 fun b H3 =>
    if b = true then te σ2 H3 fun y H4 => ∃ acc, H4 D = some (.lst acc) ∧ acc.length < sizeLine ∧ Nx (upd H4 D (.lst (acc ++ [y]))) else Nx H3)
theorem r_lc {wi : TI} {g : TG} {tt : TT} {vs : List Nat} (h : wi σ H fun J H1 => ∀ p, H1 p = none → tLcs J g tt te vs σ H1 p fun H2 => Q (.ref p) H2) : tLc wi g tt te vs σ H Q := h
theorem c_it {J : It} {n : Nat} {G : Hp → Prop} {Y : Nat → Hp → V → Hp → Prop} {g : TG} {tt : TT} {vs : List Nat} {p : Addr} {Qd : Hp → Prop} (w : Walk J n G Y) (Pv : Nat → Hp → Prop) (h0 : Pv 0 (upd H p (.lst []))) (hG : ∀ i H, i ≤ n → Pv i H → G H)
    (hs : ∀ i x H H', i < n → Pv i H → Y i H x H' → g x (wipe σ vs) H' fun σ2 H2 => wipe σ2 vs = wipe σ vs ∧ tt σ2 H2 fun b H3 =>
      if b = true then te σ2 H3 fun y H4 => ∃ acc, H4 p = some (.lst acc) ∧ acc.length < sizeLine ∧ Pv (i + 1) (upd H4 p (.lst (acc ++ [y]))) else Pv (i + 1) H3) (hd : ∀ H, Pv n H → Qd H) : tLcs J g tt te vs σ H p Qd := lc_it w Pv h0 hG hs hd
theorem r_while {c : TT} {tb : TS} (Pv : S → Hp → Prop) (μ : S → Hp → Nat) (Pe : S → Hp → Prop) (h0 : Pv σ H) (he : ∀ σ H, Pe σ H → D.nx σ H)
    (hs : ∀ σ H, Pv σ H → (∀ σ H, Pe σ H → D.nx σ H) → c σ H fun b H1 => if b = true then ∃ N : S → Hp → Prop, (∀ σ' H', N σ' H' → ∃ m', m' < μ σ H ∧ (m' = μ σ' H' ∧ Pv σ' H')) ∧ tb { D with nx := N, ct := N, bk := D.nx } σ H1 else D.nx σ H1) : tWhile c tb D σ H := by
  refine ⟨fun m σ H => m = μ σ H ∧ Pv σ H, ⟨_, rfl, h0⟩, ?_⟩
  rintro m σ H ⟨rfl, p⟩
  exact hs σ H p he
theorem r_turn {tb : TS} {Pv : S → Hp → Prop} {μ : S → Hp → Nat} {m : Nat} {rt : VK} {bk : S → Hp → Prop} (h : tb { nx := fun σ' H' => Pv σ' H' ∧ μ σ' H' < m, rt := rt, ct := fun σ' H' => Pv σ' H' ∧ μ σ' H' < m, bk := bk } σ H) :
    ∃ N : S → Hp → Prop, (∀ σ' H', N σ' H' → ∃ m', m' < m ∧ (m' = μ σ' H' ∧ Pv σ' H')) ∧ tb { nx := N, rt := rt, ct := N, bk := bk } σ H :=
  ⟨_, fun σ' H' q => ⟨_, q.2, rfl, q.1⟩, h⟩
theorem r_iteNT {A B : Prop} (h : B) : if (!true) = true then A else B := h
theorem r_iteNF {A B : Prop} (h : A) : if (!false) = true then A else B := h
theorem r_isiT {p : Addr} {xs : List V} (h1 : H p = some (.tup xs)) (h : Q (.bl true) H) : rIsi K [.ref p, .ty "tuple"] H Q := r_isi (.ty "tuple") (.base (.tup h1)) (kit_ty (by decide +kernel)) h
theorem r_seqH (Mid : S → Hp → Prop) (h2 : ∀ σ G, Mid σ G → u D σ G) (h1 : (∀ σ G, Mid σ G → u D σ G) → t { D with nx := u D } σ H) : tSeq t u D σ H := h1 h2
theorem r_nx {f bk ct : S → Hp → Prop} {rt : VK} (h : f σ H) : Ends.nx { nx := f, rt := rt, bk := bk, ct := ct } σ H := h
theorem r_bk {f bk ct : S → Hp → Prop} {rt : VK} (h : bk σ H) : Ends.bk { nx := f, rt := rt, bk := bk, ct := ct } σ H := h
theorem r_ct {f bk ct : S → Hp → Prop} {rt : VK} (h : ct σ H) : Ends.ct { nx := f, rt := rt, bk := bk, ct := ct } σ H := h
theorem r_rt {f bk ct : S → Hp → Prop} {rt : VK} (h : rt v H) : Ends.rt { nx := f, rt := rt, bk := bk, ct := ct } v H := h
theorem r_iseqL {R : It → Hp → Prop} (h : te σ H fun x H1 => ∃ a, x = .ref a ∧ (∃ xs, SqL K H1 a xs) ∧ R (Itl K a) H1) : iSeqU K te σ H R := .inl h
theorem r_iseqT {R : It → Hp → Prop} (h : te σ H fun x H1 => ∃ a, x = .ref a ∧ (∃ xs, SqT K H1 a xs) ∧ R (Itt K a) H1) : iSeqU K te σ H R := .inr (.inl h)
theorem r_iseqS {R : It → Hp → Prop} (h : te σ H fun v H1 => ∃ x, v = .str x ∧ R (Its x) H1) : iSeqU K te σ H R := .inr (.inr h)
theorem r_yes {P : Bool → Hp → Prop} (h : P true H) : tYes σ H P := h
theorem r_rng1 {R : It → Hp → Prop} (h : tr σ H fun vs H1 => ∃ j : Int, vs = [.int j] ∧ -(2 ^ 62) ≤ j ∧ j < 2 ^ 62 ∧ R (Itr 0 j.toNat) H1) : iRng1 tr σ H R := h
theorem r_one {P : Int → Prop} (h1 : -(2 ^ 62) ≤ i ∧ i < 2 ^ 62) (h : P i) : ∃ j : Int, [V.int i] = [.int j] ∧ -(2 ^ 62) ≤ j ∧ j < 2 ^ 62 ∧ P j := ⟨i, rfl, h1.1, h1.2, h⟩
end
end Px

namespace Px
open PySem PySem.Spec PyProof.Rows L2
/-! ### how long what repr shows may be -/
structure Sm (n : Nat) (d : PyData) : Prop where
  sh : d.showable = true
  le : d.shown.length ≤ n
theorem Sm.mono {n m : Nat} {d : PyData} (h : Sm n d) (l : n ≤ m) : Sm m d := ⟨h.sh, Nat.le_trans h.le l⟩
theorem append_len (a b : Str) : (a ++ b).length = a.length + b.length := by
  show (a.cps ++ b.cps).size = a.cps.size + b.cps.size
  rw [Array.size_append]
theorem join_len (sep : Str) (n : Nat) : ∀ ts : List Str, (∀ t ∈ ts, t.length ≤ n) → (Str.join sep ts).length ≤ ts.length * (n + sep.length)
  | [], _ => by rw [join_nil]; exact Nat.zero_le _
  | [x], h => by
    rw [join_one]
    have := h x (by simp)
    simp
    omega
  | x :: y :: r, h => by
    rw [join_cons_cons, append_len, append_len]
    have h1 := h x (by simp)
    have h2 := join_len sep n (y :: r) fun t ht => h t (List.mem_cons_of_mem _ ht)
    have e : (x :: y :: r).length = (y :: r).length + 1 := rfl
    rw [e, Nat.add_mul, Nat.one_mul]
    omega
theorem lt_log {n : Nat} (h : n < 10 ^ 20) : n.log2 < 1920 := by
  by_cases z : n = 0
  · rw [z]; decide
  · exact (Nat.log2_lt z).mpr (Nat.lt_trans h (by decide))
theorem Sm.int {i : Int} (h : i.natAbs < 10 ^ 20) : Sm 21 (.int i) := by
  refine ⟨?_, ?_⟩
  · simp only [PyData.showable]; exact decide_eq_true (lt_log h)
  · simp only [PyData.shown]
    have := int_text_length_le10 (a := i) (k := 20) (by decide) h
    rw [PySem.ofString_length]
    exact this
theorem Sm.str {z : Str} (h : ∀ c ∈ z.cps.toList, c < 16 ^ 8) : Sm (10 * z.length + 2) (.str z) := by
  refine ⟨by simp only [PyData.showable], ?_⟩
  simp only [PyData.shown]
  exact PySem.StrLaws.reprText_len z h
theorem shownAll_le {n : Nat} : ∀ {ds : List PyData}, (∀ d ∈ ds, Sm n d) → PyData.showableAll ds = true ∧ (PyData.shownAll ds).length = ds.length ∧ ∀ t ∈ PyData.shownAll ds, t.length ≤ n
  | [], _ => ⟨by simp only [PyData.showableAll], by simp only [PyData.shownAll, List.length_nil], fun t h => by simp only [PyData.shownAll] at h; cases h⟩
  | d :: ds, h => by
    obtain ⟨h1, h2, h3⟩ := shownAll_le (ds := ds) fun e he => h e (List.mem_cons_of_mem _ he)
    have h0 := h d (by simp)
    refine ⟨?_, ?_, ?_⟩
    · simp only [PyData.showableAll, h0.sh, h1, Bool.and_self]
    · simp only [PyData.shownAll, List.length_cons, h2]
    · intro t ht
      simp only [PyData.shownAll] at ht
      rcases List.mem_cons.mp ht with e | e
      · rw [e]; exact h0.le
      · exact h3 t e
theorem Sm.list {n : Nat} {ds : List PyData} (h : ∀ d ∈ ds, Sm n d) : Sm (ds.length * (n + 2) + 2) (.list ds) := by
  obtain ⟨h1, h2, h3⟩ := shownAll_le h
  refine ⟨by simp only [PyData.showable]; exact h1, ?_⟩
  simp only [PyData.shown, PySem.listText_eq_join]
  have q := join_len (", " : Str) n _ h3
  rw [h2] at q
  rw [append_len, append_len]
  show 1 + _ + 1 ≤ _
  have e : (Str.ofString ", ").length = 2 := rfl
  rw [e] at q
  omega
theorem Sm.tuple {n : Nat} {ds : List PyData} (h : ∀ d ∈ ds, Sm n d) : Sm (ds.length * (n + 2) + 3) (.tuple ds) := by
  obtain ⟨h1, h2, h3⟩ := shownAll_le h
  refine ⟨by simp only [PyData.showable]; exact h1, ?_⟩
  simp only [PyData.shown, tupleText]
  have q := join_len (", " : Str) n _ h3
  rw [h2] at q
  rw [append_len, append_len]
  have e : (Str.ofString ", ").length = 2 := rfl
  rw [e] at q
  have e1 : (Str.ofString "(").length = 1 := rfl
  rw [e1]
  split
  · have e2 : (Str.ofString ",)").length = 2 := rfl
    rw [e2]; omega
  · have e2 : (Str.ofString ")").length = 1 := rfl
    rw [e2]; omega
theorem small_line {n : Nat} (h : n ≤ 16777216) : n ≤ sizeLine := by rw [sizeLine_eq]; exact h

/-! ### lists of ints and texts as one thing -/
/-- a text of these code points -/
def sOf (xs : List Int) : Str := ⟨(xs.map Int.toNat).toArray⟩
theorem sOf_len (xs : List Int) : (sOf xs).length = xs.length := by
  show (List.toArray (xs.map Int.toNat)).size = xs.length
  simp
theorem sOf_list (xs : List Int) : (sOf xs).cps.toList = xs.map Int.toNat := by simp [sOf]
theorem sOf_append (xs ys : List Int) : sOf xs ++ sOf ys = sOf (xs ++ ys) := by
  show (⟨_ ++ _⟩ : Str) = _
  unfold sOf
  simp
def Cps (xs : List Int) : Prop := ∀ x ∈ xs, 0 ≤ x ∧ x < 16 ^ 8
theorem toNat_inj : ∀ {xs ys : List Int}, Cps xs → Cps ys → xs.map Int.toNat = ys.map Int.toNat → xs = ys
  | [], [], _, _, _ => rfl
  | [], _ :: _, _, _, h => by simp at h
  | _ :: _, [], _, _, h => by simp at h
  | x :: xs, y :: ys, hx, hy, h => by
    simp only [List.map_cons, List.cons.injEq] at h
    have e := toNat_inj (fun z hz => hx z (List.mem_cons_of_mem _ hz)) (fun z hz => hy z (List.mem_cons_of_mem _ hz)) h.2
    have h1 := (hx x (by simp)).1
    have h2 := (hy y (by simp)).1
    have e2 : x = y := by omega
    rw [e, e2]
theorem sOf_inj {xs ys : List Int} (hx : Cps xs) (hy : Cps ys) : sOf xs = sOf ys ↔ xs = ys := by
  constructor
  · intro h
    have e := congrArg (fun z : Str => z.cps.toList) h
    simp only [sOf_list] at e
    exact toNat_inj hx hy e
  · intro h; rw [h]
/-- one item: an int, or a text of one sign -/
def itV (k : Bool) (x : Int) : V := if k = true then .str ⟨#[x.toNat]⟩ else .int x
/-- v is a list of these ints, or the text of these code points -/
def IsQ (H : Hp) (k : Bool) (v : V) (xs : List Int) : Prop := xs.length ≤ 100000 ∧ ((k = false ∧ ∃ a, v = .ref a ∧ H a = some (.lst (xs.map V.int))) ∨ (k = true ∧ v = .str (sOf xs) ∧ Cps xs))
/-- .. and, if it is a list, one that H does not know -/
def NewQ (H H' : Hp) (k : Bool) (v : V) (xs : List Int) : Prop := IsQ H' k v xs ∧ (∀ a, v = .ref a → H a = none)
theorem IsQ.same {H H' : Hp} {k : Bool} {v : V} {xs : List Int} (q : IsQ H k v xs) (e : Same H H') : IsQ H' k v xs := by
  obtain ⟨l, q⟩ := q
  refine ⟨l, ?_⟩
  rcases q with ⟨hk, a, hv, h⟩ | q
  · exact .inl ⟨hk, a, hv, e _ _ h⟩
  · exact .inr q
def dq (k : Bool) (xs : List Int) : PyData := if k = true then .str (sOf xs) else .list (xs.map PyData.int)
theorem dpAll_ints {K : PySem.W.Frag} {H : Hp} : ∀ xs : List Int, DpAll K H (xs.map V.int) (xs.map PyData.int)
  | [] => .nil
  | x :: xs => .cons (.int x) (dpAll_ints xs)
theorem IsQ.dp {K : PySem.W.Frag} {H : Hp} {k : Bool} {v : V} {xs : List Int} (q : IsQ H k v xs) : Dp K H v (dq k xs) := by
  obtain ⟨l, ⟨rfl, a, rfl, h⟩ | ⟨rfl, rfl, c⟩⟩ := q
  · exact .lst (ql h) (dpAll_ints xs)
  · exact .str _
theorem canLay_ints : ∀ xs : List Int, PyData.canLayAll0 (xs.map PyData.int) = true
  | [] => by simp only [List.map_nil, PyData.canLayAll0]
  | x :: xs => by simp only [List.map_cons, PyData.canLayAll0, PyData.canLay0, canLay_ints xs, Bool.and_self]
theorem depth_ints : ∀ xs : List Int, PyData.depthAll (xs.map PyData.int) = 0
  | [] => by simp only [List.map_nil, PyData.depthAll]
  | x :: xs => by simp only [List.map_cons, PyData.depthAll, PyData.depth, depth_ints xs, Nat.max_self]
theorem shaped_list_ints (xs : List Int) : SeqAt.shaped (.list (xs.map PyData.int)) = true := by
  unfold SeqAt.shaped
  simp only [PyData.canLay0, PyData.depth, canLay_ints, depth_ints]
  decide
theorem strOk_of {z : Str} (h : ∀ c ∈ z.cps.toList, c < 0x110000) : PyData.strOk z = true := by
  unfold PyData.strOk
  rw [Array.all_eq_true_iff_forall_mem]
  intro c hc
  exact decide_eq_true (h c (by simpa using hc))
theorem eqv_ints : ∀ xs ys : List Int, PyData.eqvAll (xs.map PyData.int) (ys.map PyData.int) = decide (xs = ys)
  | [], [] => by simp only [List.map_nil, PyData.eqvAll]; rfl
  | [], y :: ys => by simp only [List.map_nil, List.map_cons, PyData.eqvAll]; simp
  | x :: xs, [] => by simp only [List.map_nil, List.map_cons, PyData.eqvAll]; simp
  | x :: xs, y :: ys => by
    simp only [List.map_cons, PyData.eqvAll, PyData.eqv, eqv_ints xs ys]
    by_cases h : x = y <;> simp [h]

theorem dq_shaped {k : Bool} {xs : List Int} (h : k = true → ∀ x ∈ xs, x < 0x110000) : SeqAt.shaped (dq k xs) = true := by
  cases k with
  | false => exact shaped_list_ints xs
  | true =>
    unfold SeqAt.shaped dq
    rw [if_pos rfl]
    simp only [PyData.canLay0, PyData.depth]
    rw [strOk_of]
    · rfl
    · intro c hc
      rw [sOf_list] at hc
      obtain ⟨x, hx, rfl⟩ := List.mem_map.mp hc
      have := h rfl x hx
      omega
theorem dq_eqv {k : Bool} {xs ys : List Int} (hx : k = true → Cps xs) (hy : k = true → Cps ys) : PyData.eqv (dq k xs) (dq k ys) = decide (xs = ys) := by
  cases k with
  | false =>
    show PyData.eqv (.list _) (.list _) = _
    simp only [PyData.eqv, eqv_ints]
  | true =>
    show PyData.eqv (.str _) (.str _) = _
    simp only [PyData.eqv]
    have e := sOf_inj (hx rfl) (hy rfl)
    by_cases h : xs = ys
    · rw [h]; simp
    · rw [decide_eq_false h]
      exact beq_eq_false_iff_ne.mpr fun z => h (e.mp z)
theorem IsQ.len {H : Hp} {k : Bool} {v : V} {xs : List Int} (q : IsQ H k v xs) : xs.length ≤ 100000 := q.1
theorem IsQ.cps {H : Hp} {k : Bool} {v : V} {xs : List Int} (q : IsQ H k v xs) : k = true → Cps xs := fun e => by
  obtain ⟨_, ⟨hk, _⟩ | ⟨_, _, c⟩⟩ := q
  · rw [hk] at e; cases e
  · exact c
section
variable {K : PySem.W.Frag} {H : Hp} {Q : VK} {k : Bool} {v u : V} {xs ys : List Int} {i : Int}
theorem q_len (q : IsQ H k v xs) (h : Q (.int xs.length) H) : rLenU K [v] H Q := by
  obtain ⟨l, ⟨rfl, a, rfl, e⟩ | ⟨rfl, rfl, c⟩⟩ := q
  · have e2 : (xs.map V.int).length = xs.length := List.length_map ..
    exact r_lenUL (ql e) (by rw [e2]; exact h)
  · exact r_lenUS (by rw [sOf_len]; exact small_line (by omega)) (by rw [sOf_len]; exact h)
theorem q_ix {j : Nat} {x : Int} (q : IsQ H k v xs) (hj : i = (j : Int)) (hx : xs[j]? = some x) (h : Q (itV k x) H) : rIx K v (.int i) H Q := by
  subst hj
  obtain ⟨l, ⟨rfl, a, rfl, e⟩ | ⟨rfl, rfl, c⟩⟩ := q
  · exact r_ixL (ql e) (atI_nat (by rw [List.getElem?_map, hx]; rfl)) h
  · exact r_ixS (by rw [sOf_len]; exact small_line (by omega)) (atI_nat (by rw [sOf_list, List.getElem?_map, hx]; rfl)) h
theorem q_eqi {x y : Int} (hx : k = true → 0 ≤ x) (hy : k = true → 0 ≤ y) (h : Q (.bl (decide (x = y))) H) : rEqU K (itV k x) (itV k y) H Q := by
  cases k with
  | false => exact r_eqUI h
  | true =>
    refine r_eqUS ?_
    have e : decide ((⟨#[x.toNat]⟩ : Str) = ⟨#[y.toNat]⟩) = decide (x = y) := by
      have h1 := hx rfl
      have h2 := hy rfl
      by_cases z : x = y
      · subst z; simp
      · rw [decide_eq_false z]
        refine decide_eq_false fun w => z ?_
        simp at w
        omega
    rw [e]; exact h
theorem q_nei {x y : Int} (hx : k = true → 0 ≤ x) (hy : k = true → 0 ≤ y) (h : Q (.bl (!decide (x = y))) H) : rNeU K (itV k x) (itV k y) H Q := by
  cases k with
  | false => exact r_neUI h
  | true =>
    refine r_neUS ?_
    have e : decide ((⟨#[x.toNat]⟩ : Str) = ⟨#[y.toNat]⟩) = decide (x = y) := by
      have h1 := hx rfl
      have h2 := hy rfl
      by_cases z : x = y
      · subst z; simp
      · rw [decide_eq_false z]
        refine decide_eq_false fun w => z ?_
        simp at w
        omega
    rw [e]; exact h
theorem newq_list {H' : Hp} {p : Addr} (hp : H p = none) (l : xs.length ≤ 100000) (e : H' p = some (.lst (xs.map V.int))) : NewQ H H' false (.ref p) xs :=
  ⟨⟨l, .inl ⟨rfl, p, rfl, e⟩⟩, fun a ea => by cases ea; exact hp⟩
theorem newq_str {H' : Hp} (l : xs.length ≤ 100000) (c : Cps xs) : NewQ H H' true (.str (sOf xs)) xs := ⟨⟨l, .inr ⟨rfl, rfl, c⟩⟩, fun a ea => nomatch ea⟩
/-- a new list of ints at p, laid -/
theorem q_new {p : Addr} {vs : List V} (hp : H p = none) (l : xs.length ≤ 100000) (e : vs = xs.map V.int) : NewQ H (upd H p (.lst vs)) false (.ref p) xs := newq_list hp l (by rw [upd_same, e])
theorem Cps.sub {xs ys : List Int} (c : Cps xs) (h : ∀ x ∈ ys, x ∈ xs) : Cps ys := fun x hx => c x (h x hx)
/-- v[lo:hi] -/
theorem q_sl {lo hi : Option Int} {a b : Nat} (q : IsQ H k v xs) (ha : HT.sIx xs.length 0 lo = a) (hb : HT.sIx xs.length xs.length hi = b) (h : ∀ v' H', Same H H' → NewQ H H' k v' ((xs.drop a).take (b - a)) → Q v' H') : rSlU K v lo hi H Q := by
  have hl : ((xs.drop a).take (b - a)).length ≤ 100000 := by
    rw [List.length_take, List.length_drop]
    have := q.1
    omega
  obtain ⟨l, ⟨rfl, p, rfl, e⟩ | ⟨rfl, rfl, c⟩⟩ := q
  · refine r_slUL (ql e) fun p hp => h _ _ (same_new hp) (q_new hp hl ?_)
    unfold cutV
    rw [List.length_map, ha, hb, List.map_take, List.map_drop]
  · refine r_slUS (by rw [sOf_len]; exact small_line (by omega)) ?_
    have e : cutS (sOf xs) lo hi = sOf ((xs.drop a).take (b - a)) := by
      unfold cutS
      rw [sOf_len, ha, hb, sOf_list]
      unfold sOf
      rw [List.map_take, List.map_drop]
    rw [e]
    exact h _ _ (Same.refl H) (newq_str hl (c.sub fun x hx => List.mem_of_mem_drop (List.mem_of_mem_take hx)))
theorem q_rev {te : TE} {σ : S} (h : te σ H fun w H1 => IsQ H1 k w xs ∧ ∀ v' H', Same H1 H' → NewQ H1 H' k v' xs.reverse → Q v' H') : k = k → (∀ (P P' : VK), (∀ w H1, P w H1 → P' w H1) → te σ H P → te σ H P') → tRevU K te σ H Q := fun _ mono => by
  cases k with
  | false =>
    refine .inl (mono _ _ (fun w H1 ⟨q, h⟩ => ?_) h)
    obtain ⟨l, ⟨_, a, rfl, e⟩ | ⟨z, _⟩⟩ := q
    · exact ⟨a, _, rfl, ql e, fun p hp => h _ _ (same_new hp) (q_new hp (by rw [List.length_reverse]; exact l) (by rw [List.map_reverse]))⟩
    · cases z
  | true =>
    refine .inr (mono _ _ (fun w H1 ⟨q, h⟩ => ?_) h)
    obtain ⟨l, ⟨z, _⟩ | ⟨_, rfl, c⟩⟩ := q
    · cases z
    · refine ⟨sOf xs, rfl, by rw [sOf_len]; exact small_line (by omega), ?_⟩
      have e : revS (sOf xs) = sOf xs.reverse := by
        unfold revS
        rw [sOf_list]
        unfold sOf
        rw [List.map_reverse]
      rw [e]
      exact h _ _ (Same.refl H1) (newq_str (by rw [List.length_reverse]; exact l) (c.sub fun x hx => List.mem_reverse.mp hx))
theorem q_add (q1 : IsQ H k v xs) (q2 : IsQ H k u ys) (hl : xs.length + ys.length ≤ 100000) (h : ∀ v' H', Same H H' → NewQ H H' k v' (xs ++ ys) → Q v' H') : rAddU K v u H Q := by
  have hl' : (xs ++ ys).length ≤ 100000 := by rw [List.length_append]; exact hl
  obtain ⟨l1, ⟨rfl, a, rfl, e1⟩ | ⟨rfl, rfl, c1⟩⟩ := q1
  · obtain ⟨l2, ⟨_, b, rfl, e2⟩ | ⟨z, _⟩⟩ := q2
    · exact r_addUL e1 e2 (by rw [List.length_map, List.length_map]; exact small_line (by omega)) fun p hp => h _ _ (same_new hp) (q_new hp hl' (by rw [List.map_append]))
    · cases z
  · obtain ⟨l2, ⟨z, _⟩ | ⟨_, rfl, c2⟩⟩ := q2
    · cases z
    · refine r_addUS (by rw [sOf_len, sOf_len]; exact small_line (by omega)) ?_
      rw [sOf_append]
      exact h _ _ (Same.refl H) (newq_str hl' fun x hx => (List.mem_append.mp hx).elim (c1 x) (c2 x))
theorem q_eq (q1 : IsQ H k v xs) (q2 : IsQ H k u ys) (c1 : k = true → ∀ x ∈ xs, x < 0x110000) (c2 : k = true → ∀ x ∈ ys, x < 0x110000) (h : Q (.bl (decide (xs = ys))) H) : rEqU K v u H Q :=
  r_eqUD q1.dp q2.dp (dq_shaped c1) (dq_shaped c2) (by rw [dq_eqv q1.cps q2.cps]; exact h)
theorem q_ne (q1 : IsQ H k v xs) (q2 : IsQ H k u ys) (c1 : k = true → ∀ x ∈ xs, x < 0x110000) (c2 : k = true → ∀ x ∈ ys, x < 0x110000) (h : Q (.bl (!decide (xs = ys))) H) : rNeU K v u H Q :=
  r_neUD q1.dp q2.dp (dq_shaped c1) (dq_shaped c2) (by rw [dq_eqv q1.cps q2.cps]; exact h)
/-- for a, b in zip(v, u) -/
theorem q_zip {ta : TA} {R : It → Hp → Prop} {σ : S} (h : ta σ H fun vs H1 => ∃ v u, vs = [v, u] ∧ IsQ H1 k v xs ∧ IsQ H1 k u ys ∧ ∀ J : It, Walk J (min xs.length ys.length) (fun H => IsQ H k v xs ∧ IsQ H k u ys) (YPair (fun i => (xs[i]?).map (itV k)) fun i => (ys[i]?).map (itV k)) → R J H1)
    (mono : ∀ (P P' : List V → Hp → Prop), (∀ w H1, P w H1 → P' w H1) → ta σ H P → ta σ H P') : iZipU K ta σ H R := by
  cases k with
  | false =>
    refine .inl (mono _ _ (fun w H1 h => ?_) h)
    obtain ⟨v, u, rfl, q1, q2, g⟩ := h
    obtain ⟨l1, ⟨_, a, rfl, e1⟩ | ⟨z, _⟩⟩ := q1
    · obtain ⟨l2, ⟨_, b, rfl, e2⟩ | ⟨z, _⟩⟩ := q2
      · refine ⟨a, b, _, _, rfl, ql e1, ql e2, g _ ?_⟩
        have w := walk_zip (K := K) (a := a) (b := b) (xs := xs.map V.int) (ys := ys.map V.int) (n := min xs.length ys.length) (by rw [List.length_map, List.length_map])
        refine w.mono (fun H h => ?_) fun i H x H' _ _ y => ?_
        · obtain ⟨⟨_, ⟨_, a', ea, h1⟩ | ⟨z, _⟩⟩, ⟨_, ⟨_, b', eb, h2⟩ | ⟨z', _⟩⟩⟩ := h
          · cases ea; cases eb; exact ⟨ql h1, ql h2⟩
          · cases z'
          · cases z
          · cases z
        · obtain ⟨T, x1, x2, h1, h2, h3, h4, h5⟩ := y
          refine ⟨T, x1, x2, h1, h2, h3, ?_, ?_⟩
          · have z : (xs.map V.int)[i]? = some x1 := h4
            rw [List.getElem?_map] at z; exact z
          · have z : (ys.map V.int)[i]? = some x2 := h5
            rw [List.getElem?_map] at z; exact z
      · cases z
    · cases z
  | true =>
    refine .inr (mono _ _ (fun w H1 h => ?_) h)
    obtain ⟨v, u, rfl, q1, q2, g⟩ := h
    obtain ⟨l1, ⟨z, _⟩ | ⟨_, rfl, c1⟩⟩ := q1
    · cases z
    · obtain ⟨l2, ⟨z, _⟩ | ⟨_, rfl, c2⟩⟩ := q2
      · cases z
      · refine ⟨_, _, rfl, g _ ?_⟩
        have s1 : ∀ (zs : List Int) (i : Nat), sgn (sOf zs) i = (zs[i]?).map (itV true) := fun zs i => by
          unfold sgn
          rw [← Array.getElem?_toList, sOf_list, List.getElem?_map, Option.map_map]
          rfl
        have e1 : (sOf xs).cps.size = xs.length := sOf_len xs
        have e2 : (sOf ys).cps.size = ys.length := sOf_len ys
        rw [e1, e2]
        refine (walk_pairs (n := min xs.length ys.length) (f := sgn (sOf xs)) (g := sgn (sOf ys))).mono (fun _ _ => trivial) fun i H x H' _ _ y => ?_
        obtain ⟨T, x1, x2, h1, h2, h3, h4, h5⟩ := y
        exact ⟨T, x1, x2, h1, h2, h3, (s1 xs i).symm.trans h4, (s1 ys i).symm.trans h5⟩
end
end Px

namespace Px
open PySem PySem.Spec PyProof.Rows L2
/-! ### a law's end, by a contract that knows that no repr is under way -/
theorem hid_at {h : Heap} {H : Hp} {b : Addr} {o : Obj} (e : h.get? b = some o) (n : H b = none) : (hidT h H).get? b = some o := hidT_get e n
theorem law_core {P : Program} {w : World} {K : PySem.W.Frag} {mg mb : Str → Option Value} {k : Nat} {fa a : Addr} {fd : FuncData} {x : Str} {sp : Sp} {s₁ : Shared} {vs : List Value}
    (KX : K.In s₁.heap) (hns : s₁.heap.Ns mainGlobals mg) (hb : s₁.heap.Ns builtinsNs mb) (hbb : ∀ x : Str, x ≠ "__name__" → mb x = bootBuiltins x) (hlim : s₁.heap.NoLimit) (hg : s₁.gens = #[])
    (ha : s₁.heap.get? a = some { cls := .type "list", data := .seq vs.toArray }) (hr : Room k callerA)
    (F : ∀ base : Heap, K.In base → base.Ns mainGlobals mg → FnG P w K mg base CX0 k fa fd [x] sp) (hbind : ∀ (s : Shared) (u : Value), BindsTo s fd ⟨[u], []⟩ [(x, u)])
    (H : Hp) (hO : Only H) (hsp : sp [.ref a] H (fun v _ => v = .bl true) fun _ _ _ => False) (hok : HOk P w H s₁.heap) (hA : ∀ b, H b ≠ none → b = a) (hK : H a ≠ none → K.lookup a = none) :
    codeAny (model P w) callerA (.call (.ref fa) ⟨[.ref a], []⟩) (fun r s' => r = .ok (.ret (.bool true)) ∧ OldK s₁.heap s'.heap ∧ s'.os = s₁.os ∧ AllBare s'.gens) s₁ := by
  have only : ∀ {b : Addr} {o : Obj}, s₁.heap.get? b = some o → (b = a → False) → H b = none := fun {b o} e n => by
    cases q : H b with
    | none => rfl
    | some u => exact (n (hA b (by rw [q]; simp))).elim
  have noA : ∀ {b : Addr} {o : Obj} {es : Array DictEntry} {ep : Nat}, s₁.heap.get? b = some o → o.data = .dict es ep → H b = none := fun e d => only e fun z => by
    subst z
    rw [ha] at e
    cases e
    exact nomatch (show Data.seq vs.toArray _ = Data.dict _ _ from d)
  have nsK : ∀ {b : Addr} {m : Str → Option Value}, s₁.heap.Ns b m → (hidT s₁.heap H).Ns b m := fun ⟨o, es, ep, e, d, r⟩ => ⟨o, es, ep, hid_at e (noA e d), d, r⟩
  have hKb : K.In (hidT s₁.heap H) := fun b o e => hid_at (KX b o e) (by
    cases q : H b with
    | none => rfl
    | some u =>
      have e' : b = a := hA b (by rw [q]; simp)
      subst e'
      have z := hK (by rw [q]; simp)
      rw [z] at e
      cases e)
  have hM : Mod K mg (hidT s₁.heap H) := ⟨hKb, nsK hns, ⟨mb, nsK hb, hbb⟩, let ⟨mc, h1, h2⟩ := hlim; ⟨mc, nsK h1, h2⟩⟩
  have e0 : Env0 P w K mg (hidT s₁.heap H) callerA [] s₁ H := ⟨rfl, hM, fun b o e => of_hidT e, Nat.le_of_eq (hidT_size _ _), trivial, fun b hb => absurd (show b ∈ ([] : List Addr) from hb) (by simp), hok, .of_eq hg⟩
  have go := (F _ hKb (nsK hns)).run callerA [] s₁ H ⟨[.ref a], []⟩ [.ref a] [.ref a] _ _ rfl hr e0 (hbind s₁ (.ref a)) (.cons rfl .nil) hsp
  refine codeAny_mono go fun r s' h => ?_
  match r, h with
  | .error _, h => exact h.elim
  | .ok .next, h => exact h.elim
  | .ok .brk, h => exact h.elim
  | .ok .cont, h => exact h.elim
  | .ok (.ret u), ⟨v, H', os, bare, un, hok', r', q⟩ =>
    have q' : v = .bl true := q
    subst q'
    obtain rfl : u = Value.bool true := r'
    refine ⟨rfl, OldK.of_keep fun b o e => ?_, os, bare⟩
    rcases hO b with z | ⟨ob, xs, z⟩
    · exact un.keep b o e z (fun m => absurd (show b ∈ ([] : List Addr) from m) List.not_mem_nil) List.not_mem_nil
    · have h1 := (hok b _ z).1
      have h2 := (hok' b _ (un.frzs b ob _ z)).1
      rw [e] at h1
      cases h1
      exact h2
theorem law_go {P : Program} {w : World} {K : PySem.W.Frag} {mg mb : Str → Option Value} {k : Nat} {fa a : Addr} {fd : FuncData} {x : Str} {sp : Sp} {s₁ : Shared} {vs : List Value} {ns : List Int}
    (KX : K.In s₁.heap) (hns : s₁.heap.Ns mainGlobals mg) (hb : s₁.heap.Ns builtinsNs mb) (hbb : ∀ x : Str, x ≠ "__name__" → mb x = bootBuiltins x) (hlim : s₁.heap.NoLimit) (hg : s₁.gens = #[])
    (ha : s₁.heap.get? a = some { cls := .type "list", data := .seq vs.toArray }) (hi : IntsAre vs ns) (hl : ns.length ≤ sizeLine) (hr : Room k callerA)
    (F : ∀ base : Heap, K.In base → base.Ns mainGlobals mg → FnG P w K mg base CX0 k fa fd [x] sp) (hbind : ∀ (s : Shared) (u : Value), BindsTo s fd ⟨[u], []⟩ [(x, u)])
    (hsp : ∀ H : Hp, Only H → SqL K H a (ns.map V.int) → sp [.ref a] H (fun v _ => v = .bl true) fun _ _ _ => False) :
    codeAny (model P w) callerA (.call (.ref fa) ⟨[.ref a], []⟩) (fun r s' => r = .ok (.ret (.bool true)) ∧ OldK s₁.heap s'.heap ∧ s'.os = s₁.os ∧ AllBare s'.gens) s₁ := by
  have rv := vals_ints hi
  have core := law_core (mb := mb) KX hns hb hbb hlim hg ha hr F hbind
  cases hk : K.lookup a with
  | some o =>
    have e := KX a o hk
    rw [ha] at e
    cases e
    have hO : Only fun _ => none := fun _ => .inl rfl
    exact core _ hO (hsp _ hO (.inr ⟨_, vs.toArray, _, hk, rfl, rfl, rfl, by rw [List.size_toArray, hi.length]; exact hl, by simpa using rv⟩)) (fun b u z => nomatch (show (none : Option HO) = some u from z)) (fun b z => absurd rfl z) fun z => absurd rfl z
  | none =>
    let H0 : Hp := upd (fun _ => none) a (.frz { cls := .type "list", data := .seq vs.toArray } (.lst (ns.map V.int)))
    have at0 : ∀ b, b ≠ a → H0 b = none := fun b n => upd_ne n
    have hO : Only H0 := fun b => by
      by_cases q : b = a
      · subst q; exact .inr ⟨_, _, upd_same⟩
      · exact .inl (at0 b q)
    refine core H0 hO (hsp _ hO (.inl (.inr ⟨_, upd_same⟩))) (fun b u z => ?_) (fun b z => ?_) fun _ => hk
    · by_cases q : b = a
      · subst q
        have z' : HO.frz _ _ = u := Option.some.inj (upd_same.symm.trans z)
        subst z'
        exact ⟨ha, by rw [List.length_map]; exact hl, vs, _, rv, ha⟩
      · exact nomatch ((at0 b q).symm.trans z)
    · by_cases q : b = a
      · exact q
      · exact absurd (at0 b q) z
theorem walk_G {l : PySem.W.OpenLaw} {n k : Nat} {q : Program} {loose : List Str} {XP : (Str → Option Value) → Heap → Prop} {YP : World → Heap → Prop} {d : DefRec} {x : Str}
    (hn : l.most = some n) (hn2 : n ≤ sizeLine) (hdf : d.params.defaults = []) (hr : Room k callerA)
    (F : ∀ (w : World) (mg : Str → Option Value) (fa : Addr) (h : Heap), YP w h → h.Ns mainGlobals mg → mg d.name = some (.ref fa) →
      ∃ (K : PySem.W.Frag) (fd : FuncData) (sp : Sp), K.In h ∧ (∀ (s : Shared) (u : Value), BindsTo s fd ⟨[u], []⟩ [(x, u)]) ∧
        (∀ (H : Hp) (a : Addr) (ns : List Int), ns.length ≤ n → Only H → SqL K H a (ns.map V.int) → sp [.ref a] H (fun v _ => v = .bl true) fun _ _ _ => False) ∧
        ∀ base : Heap, K.In base → base.Ns mainGlobals mg → FnG l.prog w K mg base CX0 k fa fd [x] sp) :
    PySem.W.WalkO q loose XP YP l.row.toRowW d [] (fun f vs => PySem.call f vs) := by
  refine Att.attach_call hn hdf fun w s₀ s₁ mg mb fa o pm cd doc a vs ns G Y ho hd hcd hmg hobj hints hlen hg => ?_
  obtain ⟨K, fd, sp, KX, hb, hsp, hF⟩ := F w mg fa _ Y G.T.g hmg
  exact law_go KX G.T.g G.T.b G.T.builtins G.T.nolimit hg hobj hints (Nat.le_trans hlen hn2) hr hF hb fun H hO hS => hsp H a ns hlen hO hS
end Px

/-! the mathematics of least patches, over lists of ints -/
namespace K52
/-- the length of the longest common beginning -/
def cpre : List Int → List Int → Nat
  | x :: xs, y :: ys => if x = y then cpre xs ys + 1 else 0
  | _, _ => 0
theorem cpre_le1 : ∀ xs ys : List Int, cpre xs ys ≤ xs.length
  | [], _ => Nat.zero_le _
  | _ :: _, [] => Nat.zero_le _
  | x :: xs, y :: ys => by
    unfold cpre
    split
    · exact Nat.succ_le_succ (cpre_le1 xs ys)
    · exact Nat.zero_le _
theorem cpre_comm : ∀ xs ys : List Int, cpre xs ys = cpre ys xs
  | [], [] => rfl
  | [], _ :: _ => rfl
  | _ :: _, [] => rfl
  | x :: xs, y :: ys => by
    unfold cpre
    by_cases h : x = y
    · rw [if_pos h, if_pos h.symm, cpre_comm xs ys]
    · rw [if_neg h, if_neg fun e => h e.symm]
theorem cpre_le2 (xs ys : List Int) : cpre xs ys ≤ ys.length := by
  rw [cpre_comm]; exact cpre_le1 ys xs
theorem cpre_get : ∀ (xs ys : List Int) (i : Nat), i < cpre xs ys → xs[i]? = ys[i]?
  | [], _, i, h => absurd h (Nat.not_lt_zero _)
  | _ :: _, [], i, h => absurd h (Nat.not_lt_zero _)
  | x :: xs, y :: ys, i, h => by
    unfold cpre at h
    split at h
    · rename_i e
      subst e
      cases i with
      | zero => rfl
      | succ i => exact cpre_get xs ys i (Nat.lt_of_succ_lt_succ h)
    · exact absurd h (Nat.not_lt_zero _)
theorem cpre_take (xs ys : List Int) : xs.take (cpre xs ys) = ys.take (cpre xs ys) := by
  apply List.ext_getElem?
  intro i
  rw [List.getElem?_take, List.getElem?_take]
  split
  · rename_i h; exact cpre_get xs ys i h
  · rfl
theorem cpre_stop : ∀ (xs ys : List Int) (x y : Int), xs[cpre xs ys]? = some x → ys[cpre xs ys]? = some y → x ≠ y
  | [], _, x, y, h, _ => by simp at h
  | _ :: _, [], x, y, _, h => by simp at h
  | a :: xs, b :: ys, x, y, h1, h2 => by
    unfold cpre at h1 h2
    split at h1
    · rename_i e
      rw [if_pos e] at h2
      exact cpre_stop xs ys x y (by simpa using h1) (by simpa using h2)
    · rename_i e
      rw [if_neg e] at h2
      have e1 : a = x := by simpa using h1
      have e2 : b = y := by simpa using h2
      rw [← e1, ← e2]; exact e
/-- any common beginning is no longer -/
theorem cpre_max : ∀ (xs ys : List Int) (k : Nat), k ≤ xs.length → k ≤ ys.length → xs.take k = ys.take k → k ≤ cpre xs ys
  | _, _, 0, _, _, _ => Nat.zero_le _
  | [], _, k + 1, h, _, _ => absurd h (Nat.not_succ_le_zero _)
  | _ :: _, [], k + 1, _, h, _ => absurd h (Nat.not_succ_le_zero _)
  | x :: xs, y :: ys, k + 1, h1, h2, h => by
    rw [List.take_succ_cons, List.take_succ_cons] at h
    injection h with e1 e2
    unfold cpre
    rw [if_pos e1]
    exact Nat.succ_le_succ (cpre_max xs ys k (Nat.le_of_succ_le_succ h1) (Nat.le_of_succ_le_succ h2) e2)
theorem cpre_is {xs ys : List Int} {k : Nat} (h1 : k ≤ xs.length) (h2 : k ≤ ys.length) (h : xs.take k = ys.take k) (hs : ∀ x y, xs[k]? = some x → ys[k]? = some y → x ≠ y) : cpre xs ys = k := by
  have a := cpre_max xs ys k h1 h2 h
  by_cases e : cpre xs ys = k
  · exact e
  · have b : k < cpre xs ys := by omega
    have c1 := cpre_le1 xs ys
    have c2 := cpre_le2 xs ys
    have g := cpre_get xs ys k b
    have l1 : k < xs.length := by omega
    have l2 : k < ys.length := by omega
    rw [List.getElem?_eq_getElem l1, List.getElem?_eq_getElem l2] at g
    exact absurd (Option.some.inj g) (hs _ _ (List.getElem?_eq_getElem l1) (List.getElem?_eq_getElem l2))
/-- the longest common end behind a common beginning of length p -/
def csuf (p : Nat) (xs ys : List Int) : Nat := cpre (xs.drop p).reverse (ys.drop p).reverse
def pst (xs ys : List Int) : Nat := cpre xs ys
def psm (xs ys : List Int) : Nat := csuf (pst xs ys) xs ys
def pstop (xs ys : List Int) : Nat := xs.length - psm xs ys
def pmid (xs ys : List Int) : List Int := (ys.drop (pst xs ys)).take (ys.length - psm xs ys - pst xs ys)
theorem psm_le1 (xs ys : List Int) : psm xs ys + pst xs ys ≤ xs.length := by
  have h := cpre_le1 (xs.drop (pst xs ys)).reverse (ys.drop (pst xs ys)).reverse
  rw [List.length_reverse, List.length_drop] at h
  have h2 := cpre_le1 xs ys
  unfold psm csuf
  unfold pst at *
  omega
theorem psm_le2 (xs ys : List Int) : psm xs ys + pst xs ys ≤ ys.length := by
  have h := cpre_le2 (xs.drop (pst xs ys)).reverse (ys.drop (pst xs ys)).reverse
  rw [List.length_reverse, List.length_drop] at h
  have h2 := cpre_le2 xs ys
  unfold psm csuf
  unfold pst at *
  omega
theorem rev_take (l : List Int) (k : Nat) (h : k ≤ l.length) : (l.reverse.take k).reverse = l.drop (l.length - k) := by
  rw [List.take_reverse, List.reverse_reverse]
theorem suf_eq (xs ys : List Int) : xs.drop (pstop xs ys) = ys.drop (ys.length - psm xs ys) := by
  have a1 := psm_le1 xs ys
  have a2 := psm_le2 xs ys
  have h := congrArg List.reverse (cpre_take (xs.drop (pst xs ys)).reverse (ys.drop (pst xs ys)).reverse)
  have e : cpre (xs.drop (pst xs ys)).reverse (ys.drop (pst xs ys)).reverse = psm xs ys := rfl
  rw [e, rev_take _ _ (by rw [List.length_drop]; omega), rev_take _ _ (by rw [List.length_drop]; omega), List.drop_drop, List.drop_drop, List.length_drop, List.length_drop] at h
  have e1 : pst xs ys + (xs.length - pst xs ys - psm xs ys) = pstop xs ys := by unfold pstop; omega
  have e2 : pst xs ys + (ys.length - pst xs ys - psm xs ys) = ys.length - psm xs ys := by omega
  rw [e1, e2] at h
  exact h
theorem patch_right (xs ys : List Int) : xs.take (pst xs ys) ++ pmid xs ys ++ xs.drop (pstop xs ys) = ys := by
  have a2 := psm_le2 xs ys
  rw [suf_eq, show xs.take (pst xs ys) = ys.take (pst xs ys) from cpre_take xs ys]
  unfold pmid
  rw [List.append_assoc]
  have e : (ys.drop (pst xs ys)).take (ys.length - psm xs ys - pst xs ys) ++ ys.drop (ys.length - psm xs ys) = ys.drop (pst xs ys) := by
    have h := List.take_append_drop (ys.length - psm xs ys - pst xs ys) (ys.drop (pst xs ys))
    rw [List.drop_drop] at h
    have e1 : pst xs ys + (ys.length - psm xs ys - pst xs ys) = ys.length - psm xs ys := by omega
    rw [e1] at h
    exact h
  rw [e, List.take_append_drop]
theorem pmid_len (xs ys : List Int) : (pmid xs ys).length = ys.length - psm xs ys - pst xs ys := by
  have a2 := psm_le2 xs ys
  unfold pmid
  rw [List.length_take, List.length_drop]
  omega
theorem cpre_self : ∀ xs : List Int, cpre xs xs = xs.length
  | [] => rfl
  | x :: xs => by
    unfold cpre
    rw [if_pos rfl, cpre_self xs]
    rfl
theorem empty_iff (xs ys : List Int) : (pst xs ys = pstop xs ys ∧ (pmid xs ys).length = 0) ↔ xs = ys := by
  have a1 := psm_le1 xs ys
  constructor
  · rintro ⟨h1, h2⟩
    have e := patch_right xs ys
    rw [List.eq_nil_of_length_eq_zero h2, List.append_nil, h1, List.take_append_drop] at e
    exact e
  · intro e
    subst e
    have h : pst xs xs = xs.length := cpre_self xs
    rw [pmid_len]
    unfold pstop
    omega
theorem rdrop (l : List Int) (p : Nat) : (l.drop p).reverse = l.reverse.take (l.length - p) := by
  rw [List.take_reverse]
  by_cases h : p ≤ l.length
  · rw [show l.length - (l.length - p) = p by omega]
  · rw [List.drop_eq_nil_of_le (by omega), List.drop_eq_nil_of_le (by omega)]
/-- the sizes that are not replaced -/
theorem best (xs ys : List Int) (a b : Nat) (h : a + b ≤ min xs.length ys.length) (ha : xs.take a = ys.take a) (hb : xs.drop (xs.length - b) = ys.drop (ys.length - b)) : a + b ≤ pst xs ys + psm xs ys := by
  have h1 : a + b ≤ xs.length := by omega
  have h2 : a + b ≤ ys.length := by omega
  have ma : a ≤ pst xs ys := cpre_max xs ys a (by omega) (by omega) ha
  have p1 : pst xs ys ≤ xs.length := cpre_le1 xs ys
  have p2 : pst xs ys ≤ ys.length := cpre_le2 xs ys
  have hb' : xs.reverse.take b = ys.reverse.take b := by
    have z := congrArg List.reverse hb
    rw [rdrop, rdrop, show xs.length - (xs.length - b) = b by omega, show ys.length - (ys.length - b) = b by omega] at z
    exact z
  have m : min b (min xs.length ys.length - pst xs ys) ≤ psm xs ys := by
    refine cpre_max _ _ _ (by rw [List.length_reverse, List.length_drop]; omega) (by rw [List.length_reverse, List.length_drop]; omega) ?_
    rw [rdrop, rdrop, List.take_take, List.take_take]
    have e1 : min (min b (min xs.length ys.length - pst xs ys)) (xs.length - pst xs ys) = min b (min xs.length ys.length - pst xs ys) := by omega
    have e2 : min (min b (min xs.length ys.length - pst xs ys)) (ys.length - pst xs ys) = min b (min xs.length ys.length - pst xs ys) := by omega
    rw [e1, e2]
    have z := congrArg (List.take (min b (min xs.length ys.length - pst xs ys))) hb'
    rw [List.take_take, List.take_take, show min (min b (min xs.length ys.length - pst xs ys)) b = min b (min xs.length ys.length - pst xs ys) by omega] at z
    exact z
  omega
end K52

namespace Px
open PySem PySem.Spec PyProof.Rows L2
local macro_rules | `(tactic| walk_at "ne") => `(tactic| first
  | assumption
  | (refine Ne.symm ?_; assumption)
  | (refine ne_of_none (H := ?xH) (o := ?xo) ?xa ?xb; (case xb => assumption); (case xa => walk_at "hp"))
  | (refine Ne.symm (ne_of_none (H := ?xH) (o := ?xo) ?xa ?xb); (case xb => assumption); (case xa => walk_at "hp"))
  | ((refine ne_of (H := ?xH) (o := ?xo) (u := ?xu) ?xa ?xb ?xc); (case xa => walk_at "hp"); (case xb => walk_at "hp"); (case xc => (intro z; cases z))))
local macro_rules | `(tactic| walk_at "hp") => `(tactic| first
  | assumption
  | ((refine gs (H := ?xH) ?xa ?xb); (case xa => assumption); (case xb => walk_at "hp"))
  | ((refine gb (b := ?xB) (H := ?xH) ?xa ?xc ?xb); (case xa => assumption); (case xb => walk_at "hp"); (case xc => walk_at "ne"))
  | exact upd_same
  | ((refine gu ?xa ?xb); (case xb => walk_at "hp"); (case xa => walk_at "ne")))
local macro_rules | `(tactic| walk_at "hl") => `(tactic| first
  | assumption
  | (refine ql ?_; walk_at "hp")
  | ((refine gsl (H := ?xH) ?xa ?xb); (case xa => assumption); (case xb => walk_at "hl"))
  | ((refine gbl (b := ?xB) (H := ?xH) ?xa ?xc ?xb); (case xa => assumption); (case xb => walk_at "hl"); (case xc => walk_at "ne")))
local macro_rules | `(tactic| walk_at "ht") => `(tactic| first
  | assumption
  | (refine qt ?_; walk_at "hp")
  | ((refine gst (H := ?xH) ?xa ?xb); (case xa => assumption); (case xb => walk_at "ht"))
  | ((refine gbt (b := ?xB) (H := ?xH) ?xa ?xc ?xb); (case xa => assumption); (case xb => walk_at "ht"); (case xc => walk_at "ne")))
local macro_rules | `(tactic| walk_at "hq") => `(tactic| first
  | assumption
  | ((refine IsQ.same (H := ?xH) ?xb ?xa); (case xa => assumption); (case xb => walk_at "hq")))
local macro_rules | `(tactic| walk_at "sz") => `(tactic| first
  | (show _ ≤ sizeLine; decide)
  | (refine small_line ?_; (simp only [List.length_map, List.length_append, List.length_cons, List.length_nil] at *); omega))
local macro_rules | `(tactic| walk_at "rd0") => `(tactic| first
  | (with_reducible refine r_yes ?_)
  | ((with_reducible refine r_listL (xs := ?xs) ?x1 ?_); (case x1 => walk_at "hl"))
  | (with_reducible refine r_nx ?_)
  | (with_reducible refine r_rt ?_)
  | (with_reducible refine r_bk ?_)
  | (with_reducible refine r_ct ?_)
  | ((with_reducible refine r_isiT (xs := ?xs) ?x1 ?_); (case x1 => walk_at "hp"))
  | (with_reducible refine r_bm ?_)
  | (with_reducible refine r_for ?_)
  | (with_reducible refine r_lc ?_)
  | (with_reducible refine r_asg ?_)
  | ((with_reducible refine r_var (v := ?xv) ?x1 ?_); (case x1 => rfl))
  | (with_reducible refine r_c ?_)
  | (with_reducible refine r_op ?_)
  | (with_reducible refine r_cons ?_)
  | (with_reducible refine r_nil ?_)
  | (with_reducible refine r_gname ?_)
  | (with_reducible refine r_I0 ?_)
  | (with_reducible refine r_addUI ?_)
  | (with_reducible refine r_eqUI ?_)
  | (with_reducible refine r_neUI ?_)
  | (with_reducible refine r_eqUS ?_)
  | (with_reducible refine r_neUS ?_)
  | (with_reducible refine r_eqUB ?_)
  | (with_reducible refine r_test ?_)
  | (with_reducible refine r_bl ?_)
  | (with_reducible refine r_int ?_)
  | (with_reducible refine r_ifs ?_)
  | (with_reducible refine r_ret ?_)
  | (with_reducible refine r_next ?_)
  | (with_reducible refine r_call ?_)
  | (with_reducible refine r_cb ?_)
  | (with_reducible refine r_tup ?_)
  | (with_reducible refine r_lst ?_)
  | (with_reducible refine r_gsub ?_)
  | ((with_reducible refine r_setL (xs := ?xs) (j := ?xj) ?x1 ?x2 ?_); (case x1 => walk_at "hp"); (case x2 => rfl))
  | ((with_reducible refine r_ixL (xs := ?xs) (v := ?xv) ?x1 ?x2 ?_); (case x1 => walk_at "hl"); (case x2 => first | rfl | assumption))
  | ((with_reducible refine r_ixT (xs := ?xs) (v := ?xv) ?x1 ?x2 ?_); (case x1 => walk_at "ht"); (case x2 => first | rfl | assumption))
  | (with_reducible refine r_gcons ?_)
  | (with_reducible refine r_gnil ?_)
  | ((with_reducible refine r_gtup (xs := ?xs) ?x1 ?x2 ?_); (case x1 => walk_at "ht"); (case x2 => rfl))
  | ((with_reducible refine r_aug (x := ?xv) ?x1 ?_); (case x1 => rfl))
  | (with_reducible refine r_iaddI ?_)
  | (with_reducible refine r_par ?_)
  | (with_reducible refine r_two ?_)
  | (with_reducible refine r_un ?_)
  | (with_reducible refine r_if ?_)
  | (with_reducible refine r_b ?_)
  | (with_reducible refine r_and ?_)
  | (with_reducible refine r_or ?_)
  | (with_reducible refine r_not ?_)
  | (with_reducible refine r_andV ?_)
  | (with_reducible refine r_orV ?_)
  | (with_reducible refine r_notV ?_)
  | (with_reducible refine r_chain ?_)
  | (with_reducible refine r_chain3 ?_)
  | (with_reducible refine r_drop ?_)
  | (with_reducible refine r_retN ?_)
  | (with_reducible refine r_brk ?_)
  | (with_reducible refine r_cont ?_)
  | (with_reducible refine r_iteT ?_)
  | (with_reducible refine r_iteNT ?_)
  | (with_reducible refine r_iteNF ?_)
  | (with_reducible refine r_iteF ?_)
  | (with_reducible refine r_sl ?_)
  | (with_reducible refine r_noPart ?_)
  | (with_reducible refine r_part ?_)
  | (with_reducible refine r_abs ?_)
  | (with_reducible refine r_max2 ?_)
  | (with_reducible refine r_min2 ?_)
  | ((with_reducible refine q_len (k := ?xk) (xs := ?xs) ?x1 ?_); (case x1 => walk_at "hq"))
  | ((with_reducible refine r_lenUL (xs := ?xs) ?x1 ?_); (case x1 => walk_at "hl"))
  | ((with_reducible refine r_lenUT (xs := ?xs) ?x1 ?_); (case x1 => walk_at "ht"))
  | ((with_reducible refine r_mulUI ?x1 ?_); (case x1 => first | exact .inl ⟨by decide, by decide⟩ | exact .inr ⟨by decide, by decide⟩ | exact .inl ⟨by omega, by omega⟩ | exact .inr ⟨by omega, by omega⟩))
  | (with_reducible refine r_rng1 ?_)
  | ((with_reducible refine r_I ?x1 ?_); (case x1 => first | decide | (show _ ∧ _; exact ⟨by omega, by omega⟩) | (show _ ≠ _; omega) | (show _ ∧ _ ∧ _; exact ⟨by decide, by decide, by omega⟩))))
local macro_rules | `(tactic| walk_at "rd1") => `(tactic| first | (with_reducible refine r_seq ?_) | walk_at "rd0")
local macro_rules | `(tactic| walk_at "rx") => `(tactic| repeat walk_at "rd0")
local macro_rules | `(tactic| walk_at "rd") => `(tactic| repeat walk_at "rd1")
set_option hygiene false in
local macro_rules | `(tactic| walk_at "new") => `(tactic| (refine And.intro (by walk_at "sz") ?_; intro p np; generalize hg : upd _ p _ = Hn; have hs := same_of hg np; have hv := at_of hg; clear hg))
set_option hygiene false in
local macro_rules | `(tactic| walk_at "newp") => `(tactic| (intro p np; generalize hg : upd _ p _ = Hn; have hs := same_of hg np; have hv := at_of hg; clear hg))

def topS (i : Nat) : Stmt := PySem.Challenge.pw_piecetexts_k52_whole_least_patches.main.body.getD i (.Pass ⟨0, 0, 0, 0⟩)
abbrev s_common_beginning : Stmt := topS 1
theorem sc_common_beginning : FnScope ["one", "other", "many", "left", "right"] ["one", "other"] (defScope s_common_beginning) := ⟨rfl, rfl, rfl, by decide +kernel, rfl, by decide +kernel, by decide +kernel⟩
abbrev s_least_patch : Stmt := topS 2
theorem sc_least_patch : FnScope ["old", "new", "start", "one", "other", "same"] ["old", "new"] (defScope s_least_patch) := ⟨rfl, rfl, rfl, by decide +kernel, rfl, by decide +kernel, by decide +kernel⟩
abbrev s_l_bag : Stmt := topS 4
theorem sc_l_bag : FnScope ["_law_script", "_law_at", "_law_cell", "_law_digits"] ["_law_script", "_law_at"] (defScope s_l_bag) := ⟨rfl, rfl, rfl, by decide +kernel, rfl, by decide +kernel, by decide +kernel⟩
abbrev s_l_take : Stmt := topS 5
theorem sc_l_take : FnScope ["_law_bag_here", "_law_many", "_law_digit", "_law_mixed"] ["_law_bag_here", "_law_many"] (defScope s_l_take) := ⟨rfl, rfl, rfl, by decide +kernel, rfl, by decide +kernel, by decide +kernel⟩
abbrev s_l_of : Stmt := topS 6
theorem sc_l_of : FnScope ["_law_bag_here", "_law_some"] ["_law_bag_here", "_law_some"] (defScope s_l_of) := ⟨rfl, rfl, rfl, by decide +kernel, rfl, by decide +kernel, by decide +kernel⟩
abbrev s_l_patch : Stmt := topS 7
theorem sc_l_patch : FnScope ["_law_old", "_law_new", "_law_start", "_law_same"] ["_law_old", "_law_new"] (defScope s_l_patch) := ⟨rfl, rfl, rfl, by decide +kernel, rfl, by decide +kernel, by decide +kernel⟩
abbrev s_l_drawn : Stmt := topS 8
theorem sc_l_drawn : FnScope ["_law_bag_here", "_law_most", "_law_turn"] ["_law_bag_here", "_law_most"] (defScope s_l_drawn) := ⟨rfl, rfl, rfl, by decide +kernel, rfl, by decide +kernel, by decide +kernel⟩
abbrev s_l_all_sizes : Stmt := topS 9
theorem sc_l_all_sizes : FnScope ["_law_old", "_law_new", "_law_found", "_law_start", "_law_same"] ["_law_old", "_law_new"] (defScope s_l_all_sizes) := ⟨rfl, rfl, rfl, by decide +kernel, rfl, by decide +kernel, by decide +kernel⟩
abbrev s_l_is_right : Stmt := topS 10
theorem sc_l_is_right : FnScope ["_law_old", "_law_new", "_law_found", "_law_start", "_law_stop", "_law_some"] ["_law_old", "_law_new"] (defScope s_l_is_right) := ⟨rfl, rfl, rfl, by decide +kernel, rfl, by decide +kernel, by decide +kernel⟩
abbrev s_law : Stmt := topS 11
theorem sc_law : FnScope ["_law_script", "_law_at", "_law_bag_here", "_law_turn", "_law_old", "_law_new", "_law_spot", "_law_kept", "_law_ahead", "_law_one", "_law_other", "_law_start", "_law_stop", "_law_some", "_law_part"] ["_law_script"] (defScope s_law) := ⟨rfl, rfl, rfl, by decide +kernel, rfl, by decide +kernel, by decide +kernel⟩
structure Txt (K : PySem.W.Frag) (mg : Str → Option Value) : Type where
  common_beginning_a : Addr
  common_beginning_d : FuncData
  common_beginning_f : FunD K "common_beginning" "common_beginning" (defArgs s_common_beginning) (defBody s_common_beginning) (defScope s_common_beginning) [] [] common_beginning_a common_beginning_d
  common_beginning_g : mg "common_beginning" = some (.ref common_beginning_a)
  common_beginning_b : Binds K common_beginning_d ["one", "other"] []
  least_patch_a : Addr
  least_patch_d : FuncData
  least_patch_f : FunD K "least_patch" "least_patch" (defArgs s_least_patch) (defBody s_least_patch) (defScope s_least_patch) [] [] least_patch_a least_patch_d
  least_patch_g : mg "least_patch" = some (.ref least_patch_a)
  least_patch_b : Binds K least_patch_d ["old", "new"] []
  l_bag_a : Addr
  l_bag_d : FuncData
  l_bag_f : FunD K "_law_bag" "_law_bag" (defArgs s_l_bag) (defBody s_l_bag) (defScope s_l_bag) [] [] l_bag_a l_bag_d
  l_bag_g : mg "_law_bag" = some (.ref l_bag_a)
  l_bag_b : Binds K l_bag_d ["_law_script", "_law_at"] []
  l_take_a : Addr
  l_take_d : FuncData
  l_take_f : FunD K "_law_take" "_law_take" (defArgs s_l_take) (defBody s_l_take) (defScope s_l_take) [] [] l_take_a l_take_d
  l_take_g : mg "_law_take" = some (.ref l_take_a)
  l_take_b : Binds K l_take_d ["_law_bag_here", "_law_many"] []
  l_of_a : Addr
  l_of_d : FuncData
  l_of_f : FunD K "_law_of" "_law_of" (defArgs s_l_of) (defBody s_l_of) (defScope s_l_of) [] [] l_of_a l_of_d
  l_of_g : mg "_law_of" = some (.ref l_of_a)
  l_of_b : Binds K l_of_d ["_law_bag_here", "_law_some"] []
  l_patch_a : Addr
  l_patch_d : FuncData
  l_patch_f : FunD K "_law_patch" "_law_patch" (defArgs s_l_patch) (defBody s_l_patch) (defScope s_l_patch) [] [] l_patch_a l_patch_d
  l_patch_g : mg "_law_patch" = some (.ref l_patch_a)
  l_patch_b : Binds K l_patch_d ["_law_old", "_law_new"] []
  l_drawn_a : Addr
  l_drawn_d : FuncData
  l_drawn_f : FunD K "_law_drawn" "_law_drawn" (defArgs s_l_drawn) (defBody s_l_drawn) (defScope s_l_drawn) [] [] l_drawn_a l_drawn_d
  l_drawn_g : mg "_law_drawn" = some (.ref l_drawn_a)
  l_drawn_b : Binds K l_drawn_d ["_law_bag_here", "_law_most"] []
  l_all_sizes_a : Addr
  l_all_sizes_d : FuncData
  l_all_sizes_f : FunD K "_law_all_sizes" "_law_all_sizes" (defArgs s_l_all_sizes) (defBody s_l_all_sizes) (defScope s_l_all_sizes) [] [] l_all_sizes_a l_all_sizes_d
  l_all_sizes_g : mg "_law_all_sizes" = some (.ref l_all_sizes_a)
  l_all_sizes_b : Binds K l_all_sizes_d ["_law_old", "_law_new"] []
  l_is_right_a : Addr
  l_is_right_d : FuncData
  l_is_right_f : FunD K "_law_is_right" "_law_is_right" (defArgs s_l_is_right) (defBody s_l_is_right) (defScope s_l_is_right) [] [] l_is_right_a l_is_right_d
  l_is_right_g : mg "_law_is_right" = some (.ref l_is_right_a)
  l_is_right_b : Binds K l_is_right_d ["_law_old", "_law_new"] []
  law_a : Addr
  law_d : FuncData
  law_f : FunD K "law" "law" (defArgs s_law) (defBody s_law) (defScope s_law) [] [] law_a law_d
  law_g : mg "law" = some (.ref law_a)
  law_b : Binds K law_d ["_law_script"] []
  n_abs : mg "abs" = none
  n_isinstance : mg "isinstance" = none
  n_len : mg "len" = none
  n_list : mg "list" = none
  n_max : mg "max" = none
  n_min : mg "min" = none
  n_range : mg "range" = none
  n_repr : mg "repr" = none
  n_str : mg "str" = none
  n_tuple : mg "tuple" = none
  n_zip : mg "zip" = none

section
variable {P : Program} {w : World} {K : PySem.W.Frag} {mg : Str → Option Value} {base : Heap}
/-! ### the draws -/
structure Bag (n : Nat) (d m c : Int) : Prop where
  d0 : 0 ≤ d
  m0 : 0 ≤ m
  m1 : m < 2305843009213693951
  c0 : 0 ≤ c
  c1 : c + n ≤ 1000000
def BagAt (H : Hp) (b : Addr) (n : Nat) : Prop := ∃ d m c, Bag n d m c ∧ H b = some (.lst [.int d, .int m, .int c])
theorem BagAt.mono {H : Hp} {b : Addr} {n m : Nat} (h : BagAt H b n) (l : m ≤ n) : BagAt H b m := by
  obtain ⟨d, x, c, ⟨h1, h2, h3, h4, h5⟩, e⟩ := h
  exact ⟨d, x, c, ⟨h1, h2, h3, h4, by omega⟩, e⟩
theorem BagAt.same {H H' : Hp} {b : Addr} {n : Nat} (h : BagAt H b n) (e : Same H H') : BagAt H' b n := by
  obtain ⟨d, x, c, B, q⟩ := h
  exact ⟨d, x, c, B, e _ _ q⟩
theorem BagAt.some {H : Hp} {b : Addr} {n : Nat} (h : BagAt H b n) : ∃ o, H b = some o := let ⟨_, _, _, _, e⟩ := h; ⟨_, e⟩
theorem BagAt.ne {H : Hp} {b p : Addr} {n : Nat} (h : BagAt H b n) (e : H p = none) : p ≠ b := fun z => by
  obtain ⟨o, q⟩ := h.some
  rw [z, q] at e
  cases e
theorem BagAt.upd {H : Hp} {b p : Addr} {m : Nat} {o : HO} (h : BagAt H b m) (n : p ≠ b) : BagAt (upd H p o) b m := by
  obtain ⟨d, x, c, B, q⟩ := h
  exact ⟨d, x, c, B, gu (Ne.symm n) q⟩
theorem sameB_mut {b : Addr} {H H' : Hp} {p : Addr} {o : HO} (e : SameB b H H') (h : H p = none) : SameB b H (upd H' p o) := fun a u n ha => (upd_ne (ne_of_none ha h)).trans (e a u n ha)
def sp_l_take (T : Txt K mg) : Sp := fun vs H Q _ => ∃ (b : Addr) (k : Int) (n : Nat), vs = [.ref b, .int k] ∧ BagAt H b (n + 1) ∧ 0 < k ∧ k < 1000000 ∧
  ∀ r H', 0 ≤ r → r < k → BagAt H' b n → SameB b H H' → Q (.int r) H'
theorem len_l_take (T : Txt K mg) (vs : List V) (H : Hp) (Q : VK) (E : XK) (h : sp_l_take T vs H Q E) : vs.length = 2 := by
  obtain ⟨b, k, n, rfl, _⟩ := h
  rfl
def t_l_take (T : Txt K mg) : TS := (tSeq (tIfS (tTest (tOp rGtI (tOp (rIx K) (tVar 0) (tC (.int 0))) (tC (.int 0)))) (tSeq (tAsg (tOp rModI (tOp (rIx K) (tVar 0) (tC (.int 0))) (tVar 1)) (gName 2))
    (tSeq (tAsg (tOp rFdivI (tOp (rIx K) (tVar 0) (tC (.int 0))) (tVar 1)) (gSub (tVar 0) (tC (.int 0)) rSetL))
    (tRet (tVar 2)))) tNext)
    (tSeq (tAsg (tOp (rAddU K) (tOp (rIx K) (tVar 0) (tC (.int 2))) (tC (.int 1))) (gSub (tVar 0) (tC (.int 2)) rSetL))
    (tSeq (tAsg (tOp rModI (tOp rPowI (tOp (rAddU K) (tOp (rIx K) (tVar 0) (tC (.int 1))) (tOp (rMulU K) (tC (.int 1000033)) (tOp (rIx K) (tVar 0) (tC (.int 2))))) (tC (.int 3))) (tC (.int 2305843009213693921))) (gName 3))
    (tSeq (tAsg (tOp rModI (tOp rPowI (tOp (rAddU K) (tVar 3) (tOp (rMulU K) (tC (.int 32452867)) (tOp (rIx K) (tVar 0) (tC (.int 2))))) (tC (.int 2))) (tC (.int 2305843009213693951))) (gName 3))
    (tRet (tOp rModI (tOp rFdivI (tVar 3) (tC (.int 1024))) (tVar 1)))))))

theorem pure_l_take (T : Txt K mg) (vs : List V) (H : Hp) (Q : VK) (E : XK) (h : sp_l_take T vs H Q E) : t_l_take T { nx := fun _ H' => Q .non H', rt := Q } (start ["_law_bag_here", "_law_many", "_law_digit", "_law_mixed"] vs) H := by
  obtain ⟨b, k, n, rfl, ⟨d, m, c, ⟨d0, m0, m1, c0, c1⟩, hB⟩, hk, hk2, q⟩ := h
  unfold t_l_take
  have hM : ∀ x : Int, 0 ≤ x.fmod 2305843009213693921 ∧ x.fmod 2305843009213693921 < 2305843009213693921 := fun x => ⟨Int.fmod_nonneg_of_pos x (by decide), Int.fmod_lt_of_pos x (by decide)⟩
  walk_at "rd"
  refine r_iteD (fun hd => ?_) (fun hd => ?_)
  · walk_at "rd"
    refine q _ _ (Int.fmod_nonneg_of_pos _ hk) (Int.fmod_lt_of_pos _ hk) ⟨_, _, _, ⟨?_, m0, m1, c0, by omega⟩, upd_same⟩ sameB_upd
    rw [Int.fdiv_eq_ediv_of_nonneg _ (Int.le_of_lt hk)]
    exact Int.ediv_nonneg d0 (Int.le_of_lt hk)
  · walk_at "rd"
    generalize hx : ((m + 1000033 * (c + 1)) ^ (Int.toNat 3)).fmod 2305843009213693921 = x1
    have hx1 := hM ((m + 1000033 * (c + 1)) ^ (Int.toNat 3))
    rw [hx] at hx1
    walk_at "rd"
    exact q _ _ (Int.fmod_nonneg_of_pos _ hk) (Int.fmod_lt_of_pos _ hk) ⟨_, _, _, ⟨d0, m0, m1, by omega, by omega⟩, upd_same⟩ sameB_upd
theorem ok_l_take (T : Txt K mg) : FnOk P w K mg base CX0 1 T.l_take_a T.l_take_d ["_law_bag_here", "_law_many"] (sp_l_take T) := by
  refine T.l_take_f.ok sc_l_take (fun vs H Q E h => len_l_take T vs H Q E h) (fun cdv A outer s H vs Q E hr h => ⟨t_l_take T, PSs.nox ?_, pure_l_take T vs H Q E h⟩)
  have hu := hu64 hr
  exact (pss_cons (ps_if (pt_cmpR op_gt (pe_ix ix_seq (pv 0) pe_int (fun _ _ => rfl)) pe_int (nomark _)) (pss_cons (ps_set (i := 2) sc_l_take.nd rfl (.inl rfl) (pe_op op_modN (pe_ix ix_seq (pv 0) pe_int (fun _ _ => rfl)) (pv 1)))
      (pss_cons (ps_asg (pe_op op_fdivN (pe_ix ix_seq (pv 0) pe_int (fun _ _ => rfl)) (pv 1)) (pg_sub (pv 0) pe_int set_list))
      (pss_one (ps_ret (pv 2))))) pss_nil)
      (pss_cons (ps_asg (pe_op op_addU (pe_ix ix_seq (pv 0) pe_int (fun _ _ => rfl)) pe_int) (pg_sub (pv 0) pe_int set_list))
      (pss_cons (ps_set (i := 3) sc_l_take.nd rfl (.inl rfl) (pe_op op_modN (pe_op op_pow (pe_op op_addU (pe_ix ix_seq (pv 0) pe_int (fun _ _ => rfl)) (pe_op op_mulU pe_int (pe_ix ix_seq (pv 0) pe_int (fun _ _ => rfl)))) pe_int) pe_int))
      (pss_cons (ps_set (i := 3) sc_l_take.nd rfl (.inl rfl) (pe_op op_modN (pe_op op_pow (pe_op op_addU (pv 3) (pe_op op_mulU pe_int (pe_ix ix_seq (pv 0) pe_int (fun _ _ => rfl)))) pe_int) pe_int))
      (pss_one (ps_ret (pe_op op_modN (pe_op op_fdivN (pv 3) pe_int) (pv 1))))))))


def sp_l_bag (T : Txt K mg) : Sp := fun vs H Q _ => ∃ (a : Addr) (ns : List Int) (i : Nat), vs = [.ref a, .int i] ∧ SqL K H a (ns.map V.int) ∧ ns.length ≤ 63 ∧ i ≤ 1000 ∧
  ∀ p H', Same H H' → H p = none → BagAt H' p 1000000 → Q (.ref p) H'
theorem len_l_bag (T : Txt K mg) (vs : List V) (H : Hp) (Q : VK) (E : XK) (h : sp_l_bag T vs H Q E) : vs.length = 2 := by
  obtain ⟨a, ns, i, rfl, _⟩ := h
  rfl
def t_l_bag (T : Txt K mg) : TS := (tSeq (tAsg (tIf (tTest (tOp rLtI (tVar 1) (tCB (rLenU K) (tCons (tVar 0) tNil)))) (tOp (rIx K) (tVar 0) (tVar 1)) (tC (.int 0))) (gName 2))
    (tSeq (tAsg (tIf (tTest (tOp rGeI (tCB rAbs (tCons (tVar 2) tNil)) (tOp rPowI (tC (.int 10)) (tC (.int 18))))) (tCB rAbs (tCons (tVar 2) tNil)) (tC (.int 0))) (gName 3))
    (tRet (tLst (tCons (tVar 3) (tCons (tOp rModI (tOp (rMulU K) (tOp (rAddU K) (tOp (rAddU K) (tOp rModI (tVar 2) (tC (.int 2305843009213693951))) (tOp (rMulU K) (tC (.int 5003)) (tVar 1))) (tC (.int 71))) (tC (.int 7368787))) (tC (.int 2305843009213693951))) (tCons (tC (.int 0)) tNil)))))))

theorem pure_l_bag (T : Txt K mg) (vs : List V) (H : Hp) (Q : VK) (E : XK) (h : sp_l_bag T vs H Q E) : t_l_bag T { nx := fun _ H' => Q .non H', rt := Q } (start ["_law_script", "_law_at", "_law_cell", "_law_digits"] vs) H := by
  obtain ⟨a, ns, i, rfl, hS, hl, hi, q⟩ := h
  unfold t_l_bag
  have fin : ∀ d x : Int, 0 ≤ d → [V.int d, V.int (x.fmod 2305843009213693951), V.int 0].length ≤ sizeLine ∧ ∀ p, H p = none → Q (.ref p) (upd H p (.lst [V.int d, V.int (x.fmod 2305843009213693951), V.int 0])) := by
    intro d x hd
    walk_at "new"
    exact q _ _ hs np ⟨_, _, _, ⟨hd, Int.fmod_nonneg_of_pos _ (by decide), Int.fmod_lt_of_pos _ (by decide), Int.le_refl _, by decide⟩, hv⟩
  walk_at "rd"
  refine r_iteD (fun h => ?_) (fun h => ?_)
  · have hi' : i < ns.length := by
      rw [List.length_map] at h
      omega
    have g : atI (ns.map V.int) (i : Int) = some (.int ns[i]) := atI_nat (by rw [List.getElem?_map, List.getElem?_eq_getElem hi']; rfl)
    walk_at "rd"
    refine r_iteD (fun h => ?_) (fun h => ?_)
    · walk_at "rd"
      exact fin _ _ (by split <;> omega)
    · walk_at "rd"
      exact fin _ _ (Int.le_refl _)
  · walk_at "rd"
    refine r_iteD (fun h => ?_) (fun h => ?_)
    · walk_at "rd"
      exact fin _ _ (by split <;> omega)
    · walk_at "rd"
      exact fin _ _ (Int.le_refl _)
theorem ok_l_bag (T : Txt K mg) : FnOk P w K mg base CX0 1 T.l_bag_a T.l_bag_d ["_law_script", "_law_at"] (sp_l_bag T) := by
  refine T.l_bag_f.ok sc_l_bag (fun vs H Q E h => len_l_bag T vs H Q E h) (fun cdv A outer s H vs Q E hr h => ⟨t_l_bag T, PSs.nox ?_, pure_l_bag T vs H Q E h⟩)
  have hu := hu64 hr
  exact (pss_cons (ps_set (i := 2) sc_l_bag.nd rfl (.inl rfl) (pe_ifExp (pt_cmpR op_lt (pv 1) (pe_callB c_lenU (by rfl) T.n_len (by decide +kernel) (pa_cons (pv 0) pa_nil)) (nomark _)) (pe_ix ix_seq (pv 0) (pv 1) (fun _ _ => rfl)) pe_int))
      (pss_cons (ps_set (i := 3) sc_l_bag.nd rfl (.inl rfl) (pe_ifExp (pt_cmpR op_ge (pe_callB c_abs (by rfl) T.n_abs (by decide +kernel) (pa_cons (pv 2) pa_nil)) (pe_op op_pow pe_int pe_int) (nomark _)) (pe_callB c_abs (by rfl) T.n_abs (by decide +kernel) (pa_cons (pv 2) pa_nil)) pe_int))
      (pss_one (ps_ret (pe_lst (pa_cons (pv 3) (pa_cons (pe_op op_modN (pe_op op_mulU (pe_op op_addU (pe_op op_addU (pe_op op_modN (pv 2) pe_int) (pe_op op_mulU pe_int (pv 1))) pe_int) pe_int) pe_int) (pa_cons pe_int pa_nil))))))))

def sp_l_of (T : Txt K mg) : Sp := fun vs H Q _ => ∃ (b l : Addr) (xs : List V) (n : Nat), vs = [.ref b, .ref l] ∧ SqL K H l xs ∧ l ≠ b ∧ BagAt H b (n + 1) ∧ 0 < xs.length ∧ xs.length < 1000000 ∧
  ∀ (j : Nat) x H', xs[j]? = some x → BagAt H' b n → SameB b H H' → Q x H'
theorem len_l_of (T : Txt K mg) (vs : List V) (H : Hp) (Q : VK) (E : XK) (h : sp_l_of T vs H Q E) : vs.length = 2 := by
  obtain ⟨a, l, xs, i, rfl, _⟩ := h
  rfl
def t_l_of (T : Txt K mg) : TS := (tRet (tOp (rIx K) (tVar 1) (tCall (sp_l_take T) [] E0 (tCons (tVar 0) (tCons (tCB (rLenU K) (tCons (tVar 1) tNil)) tNil)))))

theorem pure_l_of (T : Txt K mg) (vs : List V) (H : Hp) (Q : VK) (E : XK) (h : sp_l_of T vs H Q E) : t_l_of T { nx := fun _ H' => Q .non H', rt := Q } (start ["_law_bag_here", "_law_some"] vs) H := by
  obtain ⟨b, l, xs, n, rfl, hS, hne, hB, h0, h1, q⟩ := h
  unfold t_l_of
  walk_at "rd"
  refine ⟨b, xs.length, n, rfl, hB, by omega, by omega, fun r H' r0 r1 hB' hs => ?_⟩
  obtain ⟨j, rfl⟩ : ∃ j : Nat, r = j := ⟨r.toNat, by omega⟩
  have hj : j < xs.length := by omega
  have g : atI xs (j : Int) = some xs[j] := atI_nat (List.getElem?_eq_getElem hj)
  walk_at "rd"
  exact q j _ _ (List.getElem?_eq_getElem hj) hB' hs
theorem ok_l_of (T : Txt K mg) : FnOk P w K mg base CX0 2 T.l_of_a T.l_of_d ["_law_bag_here", "_law_some"] (sp_l_of T) := by
  refine T.l_of_f.ok sc_l_of (fun vs H Q E h => len_l_of T vs H Q E h) (fun cdv A outer s H vs Q E hr h => ⟨t_l_of T, PSs.nox ?_, pure_l_of T vs H Q E h⟩)
  have hu := hu64 hr
  exact (pss_one (ps_ret (pe_ix ix_seq (pv 1) (pe_call (ok_l_take T) (hr.mono (by decide)) (by rfl) T.l_take_g T.l_take_f.kp T.l_take_b .nil pass0 (pa_cons (pv 0) (pa_cons (pe_callB c_lenU (by rfl) T.n_len (by decide +kernel) (pa_cons (pv 1) pa_nil)) pa_nil))) (fun _ _ => rfl))))


def Dig (xs : List Int) : Prop := ∀ x ∈ xs, 0 ≤ x ∧ x ≤ 2
def sp_l_drawn (T : Txt K mg) : Sp := fun vs H Q _ => ∃ (b : Addr) (m n : Nat), vs = [.ref b, .int m] ∧ BagAt H b (n + 100) ∧ m ≤ 60 ∧
  ∀ p xs H', Dig xs → xs.length ≤ m → H p = none → H' p = some (.lst (xs.map V.int)) → SameB b H H' → BagAt H' b n → Q (.ref p) H'
theorem len_l_drawn (T : Txt K mg) (vs : List V) (H : Hp) (Q : VK) (E : XK) (h : sp_l_drawn T vs H Q E) : vs.length = 2 := by
  obtain ⟨a, l, i, rfl, _⟩ := h
  rfl
def t_l_drawn (T : Txt K mg) : TS := (tRet (tLc (iRng1 (tCons (tCall (sp_l_take T) [] E0 (tCons (tVar 0) (tCons (tOp (rAddU K) (tVar 1) (tC (.int 1))) tNil))) tNil)) (gName 2) tYes (tCall (sp_l_of T) [] E0 (tCons (tVar 0) (tCons (tLst (tCons (tC (.int 0)) (tCons (tC (.int 1)) (tCons (tC (.int 1)) (tCons (tC (.int 2)) tNil))))) tNil))) [2]))

theorem pure_l_drawn (T : Txt K mg) (vs : List V) (H : Hp) (Q : VK) (E : XK) (h : sp_l_drawn T vs H Q E) : t_l_drawn T { nx := fun _ H' => Q .non H', rt := Q } (start ["_law_bag_here", "_law_most", "_law_turn"] vs) H := by
  obtain ⟨b, m, n, rfl, hB, hm, q⟩ := h
  unfold t_l_drawn
  walk_at "rd"
  walk_at "rd"
  refine ⟨b, (m : Int) + 1, n + 99, rfl, hB, by omega, by omega, fun r H1 r0 r1 hB1 hs1 => ?_⟩
  obtain ⟨cnt, rfl⟩ : ∃ j : Nat, r = j := ⟨r.toNat, by omega⟩
  walk_at "rd"
  refine r_one ⟨by omega, by omega⟩ fun D hD => ?_
  have nD : D ≠ b := hB1.ne hD
  refine c_it (walk_range (lo := 0) (n := cnt)) (fun i G => ∃ acc : List Int, acc.length = i ∧ Dig acc ∧ G D = some (.lst (acc.map V.int)) ∧ SameB b H1 G ∧ BagAt G b (n + (99 - i)))
    ⟨[], rfl, fun x hx => absurd hx List.not_mem_nil, upd_same, toB (same_new hD), hB1.same (same_new hD)⟩ (fun _ _ _ _ => trivial) ?_ ?_
  · rintro i x G G' hi ⟨acc, el, hd, hG, hsb, hb⟩ ⟨rfl, rfl⟩
    walk_at "rd"
    refine ⟨rfl, ?_⟩
    walk_at "rd"
    walk_at "new"
    refine ⟨b, p, _, n + (99 - (i + 1)), rfl, ql hv, hb.ne np, (hb.same hs).mono (by omega), by decide, by decide, fun j x G2 hx hb3 hs3 => ?_⟩
    obtain ⟨z, rfl, hz⟩ : ∃ z : Int, x = .int z ∧ 0 ≤ z ∧ z ≤ 2 := by
      match j, hx with
      | 0, hx => exact ⟨0, (Option.some.inj hx).symm, by decide, by decide⟩
      | 1, hx => exact ⟨1, (Option.some.inj hx).symm, by decide, by decide⟩
      | 2, hx => exact ⟨1, (Option.some.inj hx).symm, by decide, by decide⟩
      | 3, hx => exact ⟨2, (Option.some.inj hx).symm, by decide, by decide⟩
      | j + 4, hx => cases hx
    have hD2 : G2 D = some (.lst (acc.map V.int)) := by walk_at "hp"
    refine ⟨_, hD2, by walk_at "sz", acc ++ [z], by simp [el], ?_, by rw [upd_same, List.map_append]; rfl, ?_, ?_⟩
    · intro y hy
      rcases List.mem_append.mp hy with h | h
      · exact hd y h
      · rw [List.mem_singleton.mp h]; exact hz
    · exact sameB_mut (((hsb.trans (toB hs)).trans hs3)) hD
    · exact hb3.upd nD
  · rintro G ⟨acc, el, hd, hG, hs, hb⟩
    exact q D acc G hd (by omega) (hs1.free nD hD) hG (hs1.trans hs) (hb.mono (by omega))
theorem ok_l_drawn (T : Txt K mg) : FnOk P w K mg base CX0 3 T.l_drawn_a T.l_drawn_d ["_law_bag_here", "_law_most"] (sp_l_drawn T) := by
  refine T.l_drawn_f.ok sc_l_drawn (fun vs H Q E h => len_l_drawn T vs H Q E h) (fun cdv A outer s H vs Q E hr h => ⟨t_l_drawn T, PSs.nox ?_, pure_l_drawn T vs H Q E h⟩)
  have hu := hu64 hr
  exact (pss_one (ps_ret (pe_lc (own := [("_law_turn", 2)]) (g := (gName 2)) (tt := tYes) rfl sc_l_drawn.nd (pi_range1 (by rfl) T.n_range (pa_cons (pe_call (ok_l_take T) (hr.mono (by decide)) (by rfl) T.l_take_g T.l_take_f.kp T.l_take_b .nil pass0 (pa_cons (pv 0) (pa_cons (pe_op op_addU (pv 1) pe_int) pa_nil))) pa_nil)) (blkOk_by (own := [("_law_turn", 2)]) (N := ["_law_bag_here", "_law_most", "_law_turn"]) (sc := defScope s_l_drawn) (by decide +kernel)) (fun _ _ _ _ _ => (pg_name (i := 2) sc_l_drawn.nd rfl (.inl rfl))) (fun _ _ _ _ _ => pts_nil) (fun _ _ _ _ _ => (pe_call (ok_l_of T) (hr.mono (by decide)) (by rfl) T.l_of_g T.l_of_f.kp T.l_of_b .nil pass0 (pa_cons (pv 0) (pa_cons (pe_lst (pa_cons pe_int (pa_cons pe_int (pa_cons pe_int (pa_cons pe_int pa_nil))))) pa_nil)))))))


end
section
variable {P : Program} {w : World} {K : PySem.W.Frag} {mg : Str → Option Value} {base : Heap}
def sp_common_beginning (T : Txt K mg) : Sp := fun vs H Q _ => ∃ (k : Bool) (v u : V) (xs ys : List Int), vs = [v, u] ∧ IsQ H k v xs ∧ IsQ H k u ys ∧ ∀ H', Same H H' → Q (.int (K52.cpre xs ys)) H'
theorem len_common_beginning (T : Txt K mg) (vs : List V) (H : Hp) (Q : VK) (E : XK) (h : sp_common_beginning T vs H Q E) : vs.length = 2 := by
  obtain ⟨_, _, _, _, _, rfl, _⟩ := h
  rfl
def t_common_beginning (T : Txt K mg) : TS := (tSeq (tAsg (tC (.int 0)) (gName 2))
    (tSeq (tFor (iZipU K (tCons (tVar 0) (tCons (tVar 1) tNil))) (gTup K 2 (gCons (gName 3) (gCons (gName 4) gNil))) (tSeq (tIfS (tTest (tOp (rNeU K) (tVar 3) (tVar 4))) (tRet (tVar 2)) tNext)
    (tAug 2 (tC (.int 1)) (rIaddU K))))
    (tRet (tVar 2))))

theorem mono2 {i j : Nat} {σ : S} {H : Hp} (P P' : List V → Hp → Prop) (h : ∀ w H1, P w H1 → P' w H1) (q : tCons (tVar i) (tCons (tVar j) tNil) σ H P) : tCons (tVar i) (tCons (tVar j) tNil) σ H P' := by
  obtain ⟨v, e1, u, e2, q⟩ := q
  exact ⟨v, e1, u, e2, h _ _ q⟩
theorem mono1 {i : Nat} {σ : S} {H : Hp} (P P' : VK) (h : ∀ w H1, P w H1 → P' w H1) (q : tVar i σ H P) : tVar i σ H P' := by
  obtain ⟨v, e1, q⟩ := q
  exact ⟨v, e1, h _ _ q⟩
theorem map_some {xs : List Int} {k : Bool} {i : Nat} {x : V} (h : (xs[i]?).map (itV k) = some x) : ∃ a, xs[i]? = some a ∧ x = itV k a := by
  cases e : xs[i]? with
  | none => rw [e] at h; cases h
  | some a => rw [e] at h; exact ⟨a, rfl, (Option.some.inj h).symm⟩
theorem IsQ.pos {H : Hp} {k : Bool} {v : V} {xs : List Int} {i : Nat} {a : Int} (q : IsQ H k v xs) (h : xs[i]? = some a) : k = true → 0 ≤ a := fun e => (q.cps e a (List.mem_of_getElem? h)).1
theorem pure_common_beginning (T : Txt K mg) (vs : List V) (H : Hp) (Q : VK) (E : XK) (h : sp_common_beginning T vs H Q E) : t_common_beginning T { nx := fun _ H' => Q .non H', rt := Q } (start ["one", "other", "many", "left", "right"] vs) H := by
  obtain ⟨k, v, u, xs, ys, rfl, q1, q2, q⟩ := h
  unfold t_common_beginning
  walk_at "rd"
  refine q_zip (k := k) (xs := xs) (ys := ys) ?_ mono2
  walk_at "rd"
  refine ⟨q1, q2, fun J wk => ?_⟩
  refine f_it wk (fun i σ G => ∃ v3 v4, σ = [some v, some u, some (.int (i : Nat)), v3, v4] ∧ Same H G ∧ i ≤ K52.cpre xs ys)
    ⟨none, none, rfl, Same.refl H, Nat.zero_le _⟩ (fun i σ G _ ⟨_, _, _, s, _⟩ => ⟨q1.same s, q2.same s⟩) ?_ ?_
  · rintro i x σ G G' hi ⟨v3, v4, rfl, s, hc⟩ ⟨Tp, a, b, rfl, nT, hG', ea, eb⟩
    have hs := same_of hG'.symm nT
    have hv := at_of hG'.symm
    clear hG'
    obtain ⟨a, ha, rfl⟩ := map_some ea
    obtain ⟨b, hb, rfl⟩ := map_some eb
    walk_at "rd"
    refine q_nei (q1.pos ha) (q2.pos hb) ?_
    walk_at "rd"
    refine r_iteND (fun hn => ?_) (fun hn => ?_)
    · walk_at "rd"
      have e : K52.cpre xs ys = i := by
        by_cases c : i < K52.cpre xs ys
        · have g := K52.cpre_get xs ys i c
          rw [ha, hb] at g
          exact absurd (Option.some.inj g) hn
        · omega
      have := q G' (s.trans hs)
      rw [e] at this
      exact this
    · walk_at "rd"
      refine ⟨_, _, rfl, s.trans hs, ?_⟩
      by_cases c : i < K52.cpre xs ys
      · exact c
      · have e : K52.cpre xs ys = i := by omega
        exact absurd hn (K52.cpre_stop xs ys a b (by rw [e]; exact ha) (by rw [e]; exact hb))
  · rintro σ G ⟨v3, v4, rfl, s, hc⟩
    walk_at "rd"
    have e : K52.cpre xs ys = min xs.length ys.length := by
      have h1 := K52.cpre_le1 xs ys
      have h2 := K52.cpre_le2 xs ys
      omega
    have := q G s
    rw [e] at this
    exact this
theorem ok_common_beginning (T : Txt K mg) : FnOk P w K mg base CX0 1 T.common_beginning_a T.common_beginning_d ["one", "other"] (sp_common_beginning T) := by
  refine T.common_beginning_f.ok sc_common_beginning (fun vs H Q E h => len_common_beginning T vs H Q E h) (fun cdv A outer s H vs Q E hr h => ⟨t_common_beginning T, PSs.nox ?_, pure_common_beginning T vs H Q E h⟩)
  have hu := hu64 hr
  exact (pss_cons (ps_set (i := 2) sc_common_beginning.nd rfl (.inl rfl) pe_int)
      (pss_cons (ps_for PassesOwn.never rfl (pi_zipU (by rfl) T.n_zip (pa_cons (pv 0) (pa_cons (pv 1) pa_nil))) (pg_tup (by rfl) (pgs_cons (pg_name (i := 3) sc_common_beginning.nd rfl (.inl rfl)) (pgs_cons (pg_name (i := 4) sc_common_beginning.nd rfl (.inl rfl)) pgs_nil))) (pss_cons (ps_if (pt_cmpR (op_neU hu) (pv 3) (pv 4) (nomark _)) (pss_one (ps_ret (pv 2))) pss_nil)
      (pss_one (ps_aug (i := 2) sc_common_beginning.nd rfl (.inl rfl) pe_int ip_addU))))
      (pss_one (ps_ret (pv 2)))))


end
section
variable {P : Program} {w : World} {K : PySem.W.Frag} {mg : Str → Option Value} {base : Heap}
open K52 in
def sp_least_patch (T : Txt K mg) : Sp := fun vs H Q _ => ∃ (k : Bool) (v u : V) (xs ys : List Int), vs = [v, u] ∧ IsQ H k v xs ∧ IsQ H k u ys ∧
  ∀ p c H', Same H H' → NewQ H H' k c (pmid xs ys) → H' p = some (.tup [.int (pst xs ys), .int (pstop xs ys), c]) → H p = none → Q (.ref p) H'
theorem len_least_patch (T : Txt K mg) (vs : List V) (H : Hp) (Q : VK) (E : XK) (h : sp_least_patch T vs H Q E) : vs.length = 2 := by
  obtain ⟨_, _, _, _, _, rfl, _⟩ := h
  rfl
theorem sIx_le_nat {n d : Nat} {i : Int} {j : Nat} (e : i = (j : Int)) (h : j ≤ n) : HT.sIx n d (some i) = j := by
  subst e
  rw [HT.sIx_nat]
  omega
theorem NewQ.same {H H0 H' H'' : Hp} {k : Bool} {v : V} {xs : List Int} (q : NewQ H H' k v xs) (e0 : Same H0 H) (e : Same H' H'') : NewQ H0 H'' k v xs := ⟨q.1.same e, fun a ea => e0.free (q.2 a ea)⟩
def t_least_patch (T : Txt K mg) : TS := (tSeq (tAsg (tCall (sp_common_beginning T) [] E0 (tCons (tVar 0) (tCons (tVar 1) tNil))) (gName 2))
    (tSeq (tPar 3 4 (tCons (tSl (rSlU K) (tVar 0) (tPart (tVar 2)) tNoPart) (tCons (tSl (rSlU K) (tVar 1) (tPart (tVar 2)) tNoPart) tNil)))
    (tSeq (tAsg (tCall (sp_common_beginning T) [] E0 (tCons (tRevU K (tVar 3)) (tCons (tRevU K (tVar 4)) tNil))) (gName 5))
    (tRet (tTup (tCons (tVar 2) (tCons (tOp rSubI (tCB (rLenU K) (tCons (tVar 0) tNil)) (tVar 5)) (tCons (tSl (rSlU K) (tVar 1) (tPart (tVar 2)) (tPart (tOp rSubI (tCB (rLenU K) (tCons (tVar 1) tNil)) (tVar 5)))) tNil))))))))

theorem pure_least_patch (T : Txt K mg) (vs : List V) (H : Hp) (Q : VK) (E : XK) (h : sp_least_patch T vs H Q E) : t_least_patch T { nx := fun _ H' => Q .non H', rt := Q } (start ["old", "new", "start", "one", "other", "same"] vs) H := by
  obtain ⟨k, v, u, xs, ys, rfl, q1, q2, q⟩ := h
  have l1 := K52.cpre_le1 xs ys
  have l2 := K52.cpre_le2 xs ys
  have m1 := K52.psm_le1 xs ys
  have m2 := K52.psm_le2 xs ys
  unfold t_least_patch
  walk_at "rd"
  refine ⟨k, v, u, xs, ys, rfl, q1, q2, fun H1 s1 => ?_⟩
  walk_at "rd"
  refine q_sl (q1.same s1) (sIx_le_nat rfl l1) (HT.sIx_none _ _) fun v3 H2 s2 n3 => ?_
  walk_at "rd"
  refine q_sl (q2.same (s1.trans s2)) (sIx_le_nat rfl l2) (HT.sIx_none _ _) fun v4 H3 s3 n4 => ?_
  walk_at "rd"
  have e3 : (xs.drop (K52.cpre xs ys)).take (xs.length - K52.cpre xs ys) = xs.drop (K52.cpre xs ys) := List.take_of_length_le (by rw [List.length_drop]; exact Nat.le_refl _)
  have e4 : (ys.drop (K52.cpre xs ys)).take (ys.length - K52.cpre xs ys) = ys.drop (K52.cpre xs ys) := List.take_of_length_le (by rw [List.length_drop]; exact Nat.le_refl _)
  rw [e3] at n3
  rw [e4] at n4
  refine q_rev (k := k) (xs := xs.drop (K52.cpre xs ys)) ?_ rfl mono1
  walk_at "rd"
  refine ⟨n3.1.same s3, fun v5 H4 s4 n5 => ?_⟩
  walk_at "rd"
  refine q_rev (k := k) (xs := ys.drop (K52.cpre xs ys)) ?_ rfl mono1
  walk_at "rd"
  refine ⟨n4.1.same s4, fun v6 H5 s5 n6 => ?_⟩
  walk_at "rd"
  refine ⟨k, v5, v6, _, _, rfl, n5.1.same s5, n6.1, fun H6 s6 => ?_⟩
  have sa : Same H H6 := s1.trans (s2.trans (s3.trans (s4.trans (s5.trans s6))))
  have q1' := q1.same sa
  have q2' := q2.same sa
  walk_at "rd"
  refine q_sl q2' (sIx_le_nat rfl l2) (sIx_le_nat (j := ys.length - K52.psm xs ys) ?_ (by omega)) fun c H7 s7 n7 => ?_
  · show ((ys.length : Nat) : Int) - ((K52.psm xs ys : Nat) : Int) = _
    omega
  walk_at "rd"
  walk_at "new"
  refine q p c Hn (sa.trans (s7.trans hs)) (n7.same sa hs) ?_ (sa.free (s7.free np))
  have e : ((xs.length : Nat) : Int) - ((K52.psm xs ys : Nat) : Int) = ((K52.pstop xs ys : Nat) : Int) := by
    unfold K52.pstop
    omega
  rw [← e]
  exact hv
theorem ok_least_patch (T : Txt K mg) : FnOk P w K mg base CX0 2 T.least_patch_a T.least_patch_d ["old", "new"] (sp_least_patch T) := by
  refine T.least_patch_f.ok sc_least_patch (fun vs H Q E h => len_least_patch T vs H Q E h) (fun cdv A outer s H vs Q E hr h => ⟨t_least_patch T, PSs.nox ?_, pure_least_patch T vs H Q E h⟩)
  have hu := hu64 hr
  exact (pss_cons (ps_set (i := 2) sc_least_patch.nd rfl (.inl rfl) (pe_call (ok_common_beginning T) (hr.mono (by decide)) (by rfl) T.common_beginning_g T.common_beginning_f.kp T.common_beginning_b .nil pass0 (pa_cons (pv 0) (pa_cons (pv 1) pa_nil))))
      (pss_cons (ps_par (i := 3) (j := 4) (by rfl) sc_least_patch.nd rfl rfl (by decide) rfl rfl (pa_cons (pe_slice sl_U (pv 0) (po_some (pv 2)) po_none) (pa_cons (pe_slice sl_U (pv 1) (po_some (pv 2)) po_none) pa_nil)) (by rfl))
      (pss_cons (ps_set (i := 5) sc_least_patch.nd rfl (.inl rfl) (pe_call (ok_common_beginning T) (hr.mono (by decide)) (by rfl) T.common_beginning_g T.common_beginning_f.kp T.common_beginning_b .nil pass0 (pa_cons (pe_rev (pv 3)) (pa_cons (pe_rev (pv 4)) pa_nil))))
      (pss_one (ps_ret (pe_tup (pa_cons (pv 2) (pa_cons (pe_op op_sub (pe_callB c_lenU (by rfl) T.n_len (by decide +kernel) (pa_cons (pv 0) pa_nil)) (pv 5)) (pa_cons (pe_slice sl_U (pv 1) (po_some (pv 2)) (po_some (pe_op op_sub (pe_callB c_lenU (by rfl) T.n_len (by decide +kernel) (pa_cons (pv 1) pa_nil)) (pv 5)))) pa_nil)))))))))

def sp_l_patch (T : Txt K mg) : Sp := sp_least_patch T
theorem rget (xs : List Int) (p j : Nat) (h : j + p < xs.length) : (xs.drop p).reverse[j]? = xs[xs.length - 1 - j]? := by
  rw [List.getElem?_reverse (by rw [List.length_drop]; omega), List.getElem?_drop, List.length_drop]
  congr 1
  omega
theorem len_l_patch (T : Txt K mg) (vs : List V) (H : Hp) (Q : VK) (E : XK) (h : sp_l_patch T vs H Q E) : vs.length = 2 := len_least_patch T vs H Q E h
def t_l_patch (T : Txt K mg) : TS := (tSeq (tAsg (tTup (tCons (tC (.int 0)) (tCons (tC (.int 0)) tNil))) (gTup K 2 (gCons (gName 2) (gCons (gName 3) gNil))))
    (tSeq (tWhile (tAnd (tTest (tOp rLtI (tVar 2) (tCB (rLenU K) (tCons (tVar 0) tNil)))) (tAnd (tTest (tOp rLtI (tVar 2) (tCB (rLenU K) (tCons (tVar 1) tNil)))) (tTest (tOp (rEqU K) (tOp (rIx K) (tVar 0) (tVar 2)) (tOp (rIx K) (tVar 1) (tVar 2)))))) (tAsg (tOp (rAddU K) (tVar 2) (tC (.int 1))) (gName 2)))
    (tSeq (tWhile (tAnd (tTest (tOp rLtI (tVar 3) (tOp rSubI (tCB rMin2 (tCons (tCB (rLenU K) (tCons (tVar 0) tNil)) (tCons (tCB (rLenU K) (tCons (tVar 1) tNil)) tNil))) (tVar 2)))) (tTest (tOp (rEqU K) (tOp (rIx K) (tVar 0) (tOp rSubI (tOp rSubI (tCB (rLenU K) (tCons (tVar 0) tNil)) (tC (.int 1))) (tVar 3))) (tOp (rIx K) (tVar 1) (tOp rSubI (tOp rSubI (tCB (rLenU K) (tCons (tVar 1) tNil)) (tC (.int 1))) (tVar 3)))))) (tAsg (tOp (rAddU K) (tVar 3) (tC (.int 1))) (gName 3)))
    (tRet (tTup (tCons (tVar 2) (tCons (tOp rSubI (tCB (rLenU K) (tCons (tVar 0) tNil)) (tVar 3)) (tCons (tSl (rSlU K) (tVar 1) (tPart (tVar 2)) (tPart (tOp rSubI (tCB (rLenU K) (tCons (tVar 1) tNil)) (tVar 3)))) tNil))))))))

theorem pure_l_patch (T : Txt K mg) (vs : List V) (H : Hp) (Q : VK) (E : XK) (h : sp_l_patch T vs H Q E) : t_l_patch T { nx := fun _ H' => Q .non H', rt := Q } (start ["_law_old", "_law_new", "_law_start", "_law_same"] vs) H := by
  obtain ⟨k, v, u, xs, ys, rfl, q1, q2, q⟩ := h
  have l1 := K52.cpre_le1 xs ys
  have l2 := K52.cpre_le2 xs ys
  have m1 := K52.psm_le1 xs ys
  have m2 := K52.psm_le2 xs ys
  unfold t_l_patch
  walk_at "rd"
  walk_at "new"
  walk_at "rd"
  refine r_while (fun σ G => ∃ i : Nat, σ = [some v, some u, some (.int i), some (.int 0)] ∧ Same H G ∧ i ≤ K52.cpre xs ys)
    (fun σ _ => match σ with | [_, _, some (.int i), _] => xs.length - i.toNat | _ => 0) (fun σ G => σ = [some v, some u, some (.int (K52.cpre xs ys : Nat)), some (.int 0)] ∧ Same H G) ⟨0, rfl, hs, Nat.zero_le _⟩ ?_ ?_
  · rintro σ G ⟨rfl, s⟩
    walk_at "rd"
    refine r_while (fun σ G => ∃ j : Nat, σ = [some v, some u, some (.int (K52.cpre xs ys : Nat)), some (.int j)] ∧ Same H G ∧ j ≤ K52.psm xs ys)
      (fun σ _ => match σ with | [_, _, _, some (.int j)] => xs.length - j.toNat | _ => 0) (fun σ G => σ = [some v, some u, some (.int (K52.cpre xs ys : Nat)), some (.int (K52.psm xs ys : Nat))] ∧ Same H G) ⟨0, rfl, s, Nat.zero_le _⟩ ?_ ?_
    · rintro σ G ⟨rfl, s⟩
      have q1' := q1.same s
      have q2' := q2.same s
      walk_at "rd"
      refine q_sl q2' (sIx_le_nat rfl l2) (sIx_le_nat (j := ys.length - K52.psm xs ys) ?_ (by omega)) fun c H7 s7 n7 => ?_
      · omega
      walk_at "rd"
      walk_at "new"
      refine q p c Hn (s.trans (s7.trans hs)) (n7.same s hs) ?_ (s.free (s7.free np))
      have e : ((xs.length : Nat) : Int) - ((K52.psm xs ys : Nat) : Int) = ((K52.pstop xs ys : Nat) : Int) := by
        unfold K52.pstop
        omega
      rw [← e]
      exact hv
    · rintro σ G ⟨j, rfl, s, hc⟩ fin
      have q1' := q1.same s
      have q2' := q2.same s
      have m1' : K52.psm xs ys + K52.cpre xs ys ≤ xs.length := m1
      have m2' : K52.psm xs ys + K52.cpre xs ys ≤ ys.length := m2
      have mm : (if ((ys.length : Nat) : Int) < ((xs.length : Nat) : Int) then ((ys.length : Nat) : Int) else ((xs.length : Nat) : Int)) = ((min xs.length ys.length : Nat) : Int) := by
        split <;> omega
      walk_at "rd"
      rw [mm]
      refine r_iteD (fun hx => ?_) (fun hx => ?_)
      · have k1 : j + K52.cpre xs ys < xs.length := by omega
        have k2 : j + K52.cpre xs ys < ys.length := by omega
        have gx := List.getElem?_eq_getElem (l := xs) (i := xs.length - 1 - j) (by omega)
        have gy := List.getElem?_eq_getElem (l := ys) (i := ys.length - 1 - j) (by omega)
        have hx' := (rget xs (K52.cpre xs ys) j k1).trans gx
        have hy' := (rget ys (K52.cpre xs ys) j k2).trans gy
        walk_at "rd"
        refine q_ix q1' (by omega) gx ?_
        walk_at "rd"
        refine q_ix q2' (by omega) gy ?_
        refine q_eqi (q1.pos gx) (q2.pos gy) ?_
        walk_at "rd"
        refine r_iteD (fun hz => ?_) (fun hz => ?_)
        · refine r_turn ?_
          walk_at "rd"
          refine ⟨⟨j + 1, rfl, s, ?_⟩, ?_⟩
          · by_cases c : j < K52.psm xs ys
            · exact c
            · have e : K52.psm xs ys = j := by omega
              exact absurd hz (K52.cpre_stop _ _ _ _ (by show (xs.drop (K52.cpre xs ys)).reverse[K52.psm xs ys]? = _; rw [e]; exact hx') (by show (ys.drop (K52.cpre xs ys)).reverse[K52.psm xs ys]? = _; rw [e]; exact hy'))
          · show xs.length - ((j : Int) + 1).toNat < xs.length - (j : Int).toNat
            omega
        · refine fin _ _ ⟨?_, s⟩
          have e : j = K52.psm xs ys := by
            by_cases c : j < K52.psm xs ys
            · have g := K52.cpre_get _ _ j c
              have g' := (hx'.symm.trans g).trans hy'
              exact absurd (Option.some.inj g') hz
            · omega
          rw [← e]
      · refine r_iteF ?_
        refine fin _ _ ⟨?_, s⟩
        have e : j = K52.psm xs ys := by omega
        rw [← e]
  · rintro σ G ⟨i, rfl, s, hc⟩ fin
    have q1' := q1.same s
    have q2' := q2.same s
    have out : (i < xs.length → i < ys.length → xs[i]? ≠ ys[i]?) → i = K52.cpre xs ys := fun h => by
      by_cases c : i < K52.cpre xs ys
      · exact absurd (K52.cpre_get xs ys i c) (h (by omega) (by omega))
      · omega
    walk_at "rd"
    refine r_iteD (fun hx => ?_) (fun hx => ?_)
    · walk_at "rd"
      refine r_iteD (fun hy => ?_) (fun hy => ?_)
      · have gx := List.getElem?_eq_getElem (l := xs) (i := i) (by omega)
        have gy := List.getElem?_eq_getElem (l := ys) (i := i) (by omega)
        walk_at "rd"
        refine q_ix q1' rfl gx ?_
        walk_at "rd"
        refine q_ix q2' rfl gy ?_
        refine q_eqi (q1.pos gx) (q2.pos gy) ?_
        walk_at "rd"
        refine r_iteD (fun hz => ?_) (fun hz => ?_)
        · refine r_turn ?_
          walk_at "rd"
          refine ⟨⟨i + 1, rfl, s, ?_⟩, ?_⟩
          · by_cases c : i < K52.cpre xs ys
            · exact c
            · have e : K52.cpre xs ys = i := by omega
              exact absurd hz (K52.cpre_stop xs ys _ _ (by rw [e]; exact gx) (by rw [e]; exact gy))
          · show xs.length - ((i : Int) + 1).toNat < xs.length - (i : Int).toNat
            omega
        · refine fin _ _ ⟨?_, s⟩
          rw [out fun _ _ => by rw [gx, gy]; exact fun z => hz (Option.some.inj z)]
      · walk_at "rd"
        refine fin _ _ ⟨?_, s⟩
        rw [out fun _ h => by omega]
    · walk_at "rd"
      refine fin _ _ ⟨?_, s⟩
      rw [out fun h => by omega]
theorem ok_l_patch (T : Txt K mg) : FnOk P w K mg base CX0 1 T.l_patch_a T.l_patch_d ["_law_old", "_law_new"] (sp_l_patch T) := by
  refine T.l_patch_f.ok sc_l_patch (fun vs H Q E h => len_l_patch T vs H Q E h) (fun cdv A outer s H vs Q E hr h => ⟨t_l_patch T, PSs.nox ?_, pure_l_patch T vs H Q E h⟩)
  have hu := hu64 hr
  exact (pss_cons (ps_asg (pe_tup (pa_cons pe_int (pa_cons pe_int pa_nil))) (pg_tup (by rfl) (pgs_cons (pg_name (i := 2) sc_l_patch.nd rfl (.inl rfl)) (pgs_cons (pg_name (i := 3) sc_l_patch.nd rfl (.inl rfl)) pgs_nil))))
      (pss_cons (ps_while PassesOwn.never (PW.pt (pw_and (pt_cmpR op_lt (pv 2) (pe_callB c_lenU (by rfl) T.n_len (by decide +kernel) (pa_cons (pv 0) pa_nil)) (nomark _)) (pw_and (pt_cmpR op_lt (pv 2) (pe_callB c_lenU (by rfl) T.n_len (by decide +kernel) (pa_cons (pv 1) pa_nil)) (nomark _)) (pw_and1 (pt_cmpR (op_eqU hu) (pe_ix ix_seq (pv 0) (pv 2) (fun _ _ => rfl)) (pe_ix ix_seq (pv 1) (pv 2) (fun _ _ => rfl)) (nomark _)))))) (pss_one (ps_set (i := 2) sc_l_patch.nd rfl (.inl rfl) (pe_op op_addU (pv 2) pe_int))))
      (pss_cons (ps_while PassesOwn.never (PW.pt (pw_and (pt_cmpR op_lt (pv 3) (pe_op op_sub (pe_callB (call_min2 rfl) (by rfl) T.n_min (by decide +kernel) (pa_cons (pe_callB c_lenU (by rfl) T.n_len (by decide +kernel) (pa_cons (pv 0) pa_nil)) (pa_cons (pe_callB c_lenU (by rfl) T.n_len (by decide +kernel) (pa_cons (pv 1) pa_nil)) pa_nil))) (pv 2)) (nomark _)) (pw_and1 (pt_cmpR (op_eqU hu) (pe_ix ix_seq (pv 0) (pe_op op_sub (pe_op op_sub (pe_callB c_lenU (by rfl) T.n_len (by decide +kernel) (pa_cons (pv 0) pa_nil)) pe_int) (pv 3)) (fun _ _ => rfl)) (pe_ix ix_seq (pv 1) (pe_op op_sub (pe_op op_sub (pe_callB c_lenU (by rfl) T.n_len (by decide +kernel) (pa_cons (pv 1) pa_nil)) pe_int) (pv 3)) (fun _ _ => rfl)) (nomark _))))) (pss_one (ps_set (i := 3) sc_l_patch.nd rfl (.inl rfl) (pe_op op_addU (pv 3) pe_int))))
      (pss_one (ps_ret (pe_tup (pa_cons (pv 2) (pa_cons (pe_op op_sub (pe_callB c_lenU (by rfl) T.n_len (by decide +kernel) (pa_cons (pv 0) pa_nil)) (pv 3)) (pa_cons (pe_slice sl_U (pv 1) (po_some (pv 2)) (po_some (pe_op op_sub (pe_callB c_lenU (by rfl) T.n_len (by decide +kernel) (pa_cons (pv 1) pa_nil)) (pv 3)))) pa_nil)))))))))


end
section
variable {P : Program} {w : World} {K : PySem.W.Frag} {mg : Str → Option Value} {base : Heap}
def bestZ (xs ys : List Int) : Int := (xs.length : Int) + (ys.length : Int) - 2 * (K52.pst xs ys : Int) - 2 * (K52.psm xs ys : Int)
def sp_l_all_sizes (T : Txt K mg) : Sp := fun vs H Q _ => ∃ (v u : V) (xs ys : List Int), vs = [v, u] ∧ IsQ H false v xs ∧ IsQ H false u ys ∧ xs.length ≤ 1000 ∧ ys.length ≤ 1000 ∧
  ∀ (p : Addr) (zs : List Int) H', Same H H' → H p = none → H' p = some (.lst (zs.map V.int)) → (∀ z ∈ zs, bestZ xs ys ≤ z) → bestZ xs ys ∈ zs → Q (.ref p) H'
theorem len_l_all_sizes (T : Txt K mg) (vs : List V) (H : Hp) (Q : VK) (E : XK) (h : sp_l_all_sizes T vs H Q E) : vs.length = 2 := by
  obtain ⟨_, _, _, _, rfl, _⟩ := h
  rfl
theorem min_ite (a b : Nat) : (if ((b : Nat) : Int) < ((a : Nat) : Int) then ((b : Nat) : Int) else ((a : Nat) : Int)) = ((min a b : Nat) : Int) := by
  split <;> omega
theorem noStr {xs : List Int} : false = true → ∀ x ∈ xs, x < 0x110000 := fun h => nomatch h
def t_l_all_sizes (T : Txt K mg) : TS := (tSeq (tAsg (tLst tNil) (gName 2))
    (tSeq (tFor (iRng1 (tCons (tOp (rAddU K) (tCB rMin2 (tCons (tCB (rLenU K) (tCons (tVar 0) tNil)) (tCons (tCB (rLenU K) (tCons (tVar 1) tNil)) tNil))) (tC (.int 1))) tNil)) (gName 3) (tFor (iRng1 (tCons (tOp (rAddU K) (tOp rSubI (tCB rMin2 (tCons (tCB (rLenU K) (tCons (tVar 0) tNil)) (tCons (tCB (rLenU K) (tCons (tVar 1) tNil)) tNil))) (tVar 3)) (tC (.int 1))) tNil)) (gName 4) (tIfS (tAnd (tTest (tOp (rEqU K) (tSl (rSlU K) (tVar 0) tNoPart (tPart (tVar 3))) (tSl (rSlU K) (tVar 1) tNoPart (tPart (tVar 3))))) (tTest (tOp (rEqU K) (tSl (rSlU K) (tVar 0) (tPart (tOp rSubI (tCB (rLenU K) (tCons (tVar 0) tNil)) (tVar 4))) tNoPart) (tSl (rSlU K) (tVar 1) (tPart (tOp rSubI (tCB (rLenU K) (tCons (tVar 1) tNil)) (tVar 4))) tNoPart)))) (tDrop (tBM K "list" rAppend (tVar 2) (tCons (tOp rSubI (tOp rSubI (tOp (rAddU K) (tCB (rLenU K) (tCons (tVar 0) tNil)) (tCB (rLenU K) (tCons (tVar 1) tNil))) (tOp (rMulU K) (tC (.int 2)) (tVar 3))) (tOp (rMulU K) (tC (.int 2)) (tVar 4))) tNil))) tNext)))
    (tRet (tVar 2))))

theorem pure_l_all_sizes (T : Txt K mg) (vs : List V) (H : Hp) (Q : VK) (E : XK) (h : sp_l_all_sizes T vs H Q E) : t_l_all_sizes T { nx := fun _ H' => Q .non H', rt := Q } (start ["_law_old", "_law_new", "_law_found", "_law_start", "_law_same"] vs) H := by
  obtain ⟨v, u, xs, ys, rfl, q1, q2, lx, ly, q⟩ := h
  have l1 : K52.pst xs ys ≤ xs.length := K52.cpre_le1 xs ys
  have l2 : K52.pst xs ys ≤ ys.length := K52.cpre_le2 xs ys
  have m1 := K52.psm_le1 xs ys
  have m2 := K52.psm_le2 xs ys
  unfold t_l_all_sizes
  walk_at "rd"
  walk_at "new"
  have q1' := q1.same hs
  have q2' := q2.same hs
  walk_at "rd"
  walk_at "rd"
  rw [min_ite]
  refine r_one ⟨by omega, by omega⟩ ?_
  have hn : (((min xs.length ys.length : Nat) : Int) + 1).toNat = min xs.length ys.length + 1 := by omega
  rw [hn]
  refine f_it (walk_range (lo := 0) (n := min xs.length ys.length + 1)) (fun i σ G => ∃ v3 v4, ∃ zs : List Int, σ = [some v, some u, some (.ref p), v3, v4] ∧ Same H G ∧ G p = some (.lst (zs.map V.int)) ∧
      zs.length ≤ i * 1001 ∧ (∀ z ∈ zs, bestZ xs ys ≤ z) ∧ (K52.pst xs ys < i → bestZ xs ys ∈ zs))
    ⟨none, none, [], rfl, hs, hv, Nat.zero_le _, fun z hz => absurd hz List.not_mem_nil, fun h => absurd h (Nat.not_lt_zero _)⟩ (fun _ _ _ _ _ => trivial) ?_ ?_
  · rintro i x σ G G' hi ⟨v3, v4, zs, rfl, s, hp, hl, hge, hin⟩ ⟨rfl, rfl⟩
    have a1 := q1.same s
    have a2 := q2.same s
    walk_at "rd"
    rw [min_ite]
    refine r_one ⟨by omega, by omega⟩ ?_
    have hn : (((min xs.length ys.length : Nat) : Int) - (0 + (i : Int)) + 1).toNat = min xs.length ys.length - i + 1 := by omega
    rw [hn]
    refine f_it (walk_range (lo := 0) (n := min xs.length ys.length - i + 1)) (fun j σ G => ∃ v4, ∃ zs : List Int, σ = [some v, some u, some (.ref p), some (.int (0 + (i : Int))), v4] ∧ Same H G ∧ G p = some (.lst (zs.map V.int)) ∧
        zs.length ≤ i * 1001 + j ∧ (∀ z ∈ zs, bestZ xs ys ≤ z) ∧ (K52.pst xs ys < i ∨ (K52.pst xs ys = i ∧ K52.psm xs ys < j) → bestZ xs ys ∈ zs))
      ⟨v4, zs, rfl, s, hp, hl, hge, fun h => hin (h.elim id fun z => absurd z.2 (Nat.not_lt_zero _))⟩ (fun _ _ _ _ _ => trivial) ?_ ?_
    · rintro j x σ G2 G2' hj ⟨w4, ws, rfl, s2, hp2, hl2, hge2, hin2⟩ ⟨rfl, rfl⟩
      have b1 := q1.same s2
      have b2 := q2.same s2
      have ij : i + j ≤ min xs.length ys.length := by omega
      walk_at "rd"
      refine q_sl b1 (HT.sIx_none _ _) (sIx_le_nat (j := i) (by omega) (by omega)) fun c1 H1 t1 n1 => ?_
      walk_at "rd"
      refine q_sl (b2.same t1) (HT.sIx_none _ _) (sIx_le_nat (j := i) (by omega) (by omega)) fun c2 H2 t2 n2 => ?_
      refine q_eq (n1.1.same t2) n2.1 noStr noStr ?_
      walk_at "rd"
      refine r_iteD (fun hx => ?_) (fun hx => ?_)
      · have ei : xs.take i = ys.take i := hx
        walk_at "rd"
        refine q_sl ((b1.same t1).same t2) (sIx_le_nat (j := xs.length - j) (by omega) (by omega)) (HT.sIx_none _ _) fun c3 H3 t3 n3 => ?_
        walk_at "rd"
        refine q_sl (((b2.same t1).same t2).same t3) (sIx_le_nat (j := ys.length - j) (by omega) (by omega)) (HT.sIx_none _ _) fun c4 H4 t4 n4 => ?_
        refine q_eq (n3.1.same t4) n4.1 noStr noStr ?_
        have d3 : (xs.drop (xs.length - j)).take (xs.length - (xs.length - j)) = xs.drop (xs.length - j) := List.take_of_length_le (by rw [List.length_drop]; exact Nat.le_refl _)
        have d4 : (ys.drop (ys.length - j)).take (ys.length - (ys.length - j)) = ys.drop (ys.length - j) := List.take_of_length_le (by rw [List.length_drop]; exact Nat.le_refl _)
        rw [d3, d4]
        have sx : Same H H4 := s2.trans (t1.trans (t2.trans (t3.trans t4)))
        have px : H4 p = some (.lst (ws.map V.int)) := t4 _ _ (t3 _ _ (t2 _ _ (t1 _ _ hp2)))
        walk_at "rd"
        refine r_iteD (fun hy => ?_) (fun hy => ?_)
        · have bb := K52.best xs ys i j ij ei hy
          have e1 := q1.same sx
          have e2 := q2.same sx
          walk_at "rd"
          refine ⟨r_tyL (ql px), ?_⟩
          walk_at "rd"
          refine r_append px (by walk_at "sz") ?_
          refine ⟨_, ws ++ [(xs.length : Int) + (ys.length : Int) - 2 * (0 + (i : Int)) - 2 * (0 + (j : Int))], rfl, same_mut sx np, by rw [upd_same, List.map_append]; rfl, by rw [List.length_append, List.length_singleton]; omega, fun z hz => ?_, fun h => ?_⟩
          · rcases List.mem_append.mp hz with h | h
            · exact hge2 z h
            · rw [List.mem_singleton.mp h]
              unfold bestZ
              omega
          · refine List.mem_append.mpr ?_
            by_cases h0 : K52.pst xs ys < i ∨ K52.pst xs ys = i ∧ K52.psm xs ys < j
            · exact .inl (hin2 h0)
            · refine .inr (List.mem_singleton.mpr ?_)
              unfold bestZ
              omega
        · walk_at "rd"
          refine ⟨_, ws, rfl, sx, px, by omega, hge2, fun h => hin2 ?_⟩
          by_cases h0 : K52.pst xs ys = i ∧ K52.psm xs ys = j
          · have z := K52.suf_eq xs ys
            unfold K52.pstop at z
            rw [h0.2] at z
            exact absurd z hy
          · omega
      · walk_at "rd"
        refine ⟨_, ws, rfl, s2.trans (t1.trans t2), t2 _ _ (t1 _ _ hp2), by omega, hge2, fun h => hin2 ?_⟩
        by_cases h0 : K52.pst xs ys = i
        · have z : xs.take (K52.pst xs ys) = ys.take (K52.pst xs ys) := K52.cpre_take xs ys
          rw [h0] at z
          exact absurd z hx
        · omega
    · rintro σ G2 ⟨w4, ws, rfl, s2, hp2, hl2, hge2, hin2⟩
      exact ⟨_, _, ws, rfl, s2, hp2, by omega, hge2, fun h => hin2 (by omega)⟩
  · rintro σ G ⟨v3, v4, zs, rfl, s, hp, hl, hge, hin⟩
    walk_at "rd"
    exact q p zs G s np hp hge (hin (by omega))
theorem ok_l_all_sizes (T : Txt K mg) : FnOk P w K mg base CX0 1 T.l_all_sizes_a T.l_all_sizes_d ["_law_old", "_law_new"] (sp_l_all_sizes T) := by
  refine T.l_all_sizes_f.ok sc_l_all_sizes (fun vs H Q E h => len_l_all_sizes T vs H Q E h) (fun cdv A outer s H vs Q E hr h => ⟨t_l_all_sizes T, PSs.nox ?_, pure_l_all_sizes T vs H Q E h⟩)
  have hu := hu64 hr
  exact (pss_cons (ps_set (i := 2) sc_l_all_sizes.nd rfl (.inl rfl) (pe_lst pa_nil))
      (pss_cons (ps_for PassesOwn.never rfl (pi_range1 (by rfl) T.n_range (pa_cons (pe_op op_addU (pe_callB (call_min2 rfl) (by rfl) T.n_min (by decide +kernel) (pa_cons (pe_callB c_lenU (by rfl) T.n_len (by decide +kernel) (pa_cons (pv 0) pa_nil)) (pa_cons (pe_callB c_lenU (by rfl) T.n_len (by decide +kernel) (pa_cons (pv 1) pa_nil)) pa_nil))) pe_int) pa_nil)) (pg_name (i := 3) sc_l_all_sizes.nd rfl (.inl rfl)) (pss_one (ps_for PassesOwn.never rfl (pi_range1 (by rfl) T.n_range (pa_cons (pe_op op_addU (pe_op op_sub (pe_callB (call_min2 rfl) (by rfl) T.n_min (by decide +kernel) (pa_cons (pe_callB c_lenU (by rfl) T.n_len (by decide +kernel) (pa_cons (pv 0) pa_nil)) (pa_cons (pe_callB c_lenU (by rfl) T.n_len (by decide +kernel) (pa_cons (pv 1) pa_nil)) pa_nil))) (pv 3)) pe_int) pa_nil)) (pg_name (i := 4) sc_l_all_sizes.nd rfl (.inl rfl)) (pss_one (ps_if (PW.pt (pw_and (pt_cmpR (op_eqU hu) (pe_slice sl_U (pv 0) po_none (po_some (pv 3))) (pe_slice sl_U (pv 1) po_none (po_some (pv 3))) (nomark _)) (pw_and1 (pt_cmpR (op_eqU hu) (pe_slice sl_U (pv 0) (po_some (pe_op op_sub (pe_callB c_lenU (by rfl) T.n_len (by decide +kernel) (pa_cons (pv 0) pa_nil)) (pv 4))) po_none) (pe_slice sl_U (pv 1) (po_some (pe_op op_sub (pe_callB c_lenU (by rfl) T.n_len (by decide +kernel) (pa_cons (pv 1) pa_nil)) (pv 4))) po_none) (nomark _))))) (pss_one (ps_expr (pe_bm PySem.F.plainAttrs_list PySem.F.slot_list_append PySem.F.type_list_append mt_append (pv 2) (pa_cons (pe_op op_sub (pe_op op_sub (pe_op op_addU (pe_callB c_lenU (by rfl) T.n_len (by decide +kernel) (pa_cons (pv 0) pa_nil)) (pe_callB c_lenU (by rfl) T.n_len (by decide +kernel) (pa_cons (pv 1) pa_nil))) (pe_op op_mulU pe_int (pv 3))) (pe_op op_mulU pe_int (pv 4))) pa_nil)))) pss_nil)))))
      (pss_one (ps_ret (pv 2)))))


end
section
variable {P : Program} {w : World} {K : PySem.W.Frag} {mg : Str → Option Value} {base : Heap}
structure Fine (k : Bool) (xs : List Int) : Prop where
  len : xs.length ≤ 1000
  chr : k = true → ∀ x ∈ xs, x < 0x110000
  int : ∀ x ∈ xs, x.natAbs < 10 ^ 20
def patchD (k : Bool) (xs ys : List Int) : PyData := .tuple [.int (K52.pst xs ys), .int (K52.pstop xs ys), dq k (K52.pmid xs ys)]
theorem mid_mem {xs ys : List Int} {x : Int} (h : x ∈ K52.pmid xs ys) : x ∈ ys := List.mem_of_mem_drop (List.mem_of_mem_take h)
theorem dq_sm {k : Bool} {xs : List Int} (f : Fine k xs) (c : k = true → Cps xs) : Sm 23002 (dq k xs) := by
  cases k with
  | false =>
    refine (Sm.list (n := 21) (ds := xs.map PyData.int) fun d hd => ?_).mono ?_
    · obtain ⟨x, hx, rfl⟩ := List.mem_map.mp hd
      exact Sm.int (f.int x hx)
    · rw [List.length_map]
      have := f.len
      omega
  | true =>
    refine (Sm.str (z := sOf xs) fun c' hc => ?_).mono ?_
    · rw [sOf_list] at hc
      obtain ⟨x, hx, rfl⟩ := List.mem_map.mp hc
      have := c rfl x hx
      omega
    · rw [sOf_len]
      have := f.len
      omega
theorem dq_depth (k : Bool) (xs : List Int) : (dq k xs).depth ≤ 1 := by
  cases k with
  | false =>
    show (PyData.list _).depth ≤ 1
    simp only [PyData.depth, depth_ints]
    exact Nat.le_refl _
  | true =>
    show (PyData.str _).depth ≤ 1
    simp only [PyData.depth]
    exact Nat.zero_le _
theorem patch_depth (k : Bool) (xs ys : List Int) : (patchD k xs ys).depth ≤ 60 := by
  unfold patchD
  simp only [PyData.depth, PyData.depthAll]
  have := dq_depth k (K52.pmid xs ys)
  omega
theorem patch_sm {k : Bool} {xs ys : List Int} (f1 : Fine k xs) (f : Fine k ys) (c : k = true → Cps ys) : Sm 70000 (patchD k xs ys) := by
  have l1 : K52.pst xs ys ≤ xs.length := K52.cpre_le1 xs ys
  have l3 := f1.len
  have fm : Fine k (K52.pmid xs ys) := ⟨by rw [K52.pmid_len]; have := f.len; omega, fun e x hx => f.chr e x (mid_mem hx), fun x hx => f.int x (mid_mem hx)⟩
  have h3 := dq_sm fm fun e x hx => c e x (mid_mem hx)
  refine (Sm.tuple (n := 23002) (ds := [.int (K52.pst xs ys), .int (K52.pstop xs ys), dq k (K52.pmid xs ys)]) fun d hd => ?_).mono (by show 3 * (23002 + 2) + 3 ≤ 70000; decide)
  rcases List.mem_cons.mp hd with e | hd
  · rw [e]; exact (Sm.int (by omega)).mono (by decide)
  rcases List.mem_cons.mp hd with e | hd
  · rw [e]; exact (Sm.int (by unfold K52.pstop; omega)).mono (by decide)
  · rw [List.mem_singleton.mp hd]; exact h3
def sp_l_is_right (T : Txt K mg) : Sp := fun vs H Q _ => ∃ (k : Bool) (v u : V) (xs ys : List Int), vs = [v, u] ∧ IsQ H k v xs ∧ IsQ H k u ys ∧ Fine k xs ∧ Fine k ys ∧ ∀ H', Same H H' → Q (.bl true) H'
theorem len_l_is_right (T : Txt K mg) (vs : List V) (H : Hp) (Q : VK) (E : XK) (h : sp_l_is_right T vs H Q E) : vs.length = 2 := by
  obtain ⟨_, _, _, _, _, rfl, _⟩ := h
  rfl
def t_l_is_right (T : Txt K mg) : TS := (tSeq (tAsg (tCall (sp_least_patch T) [] E0 (tCons (tVar 0) (tCons (tVar 1) tNil))) (gName 2))
    (tSeq (tIfS (tOr (tNot (tB (tCB (rIsi K) (tCons (tVar 2) (tCons (tC (.ty "tuple")) tNil))))) (tOr (tTest (tOp (rNeU K) (tCB (rLenU K) (tCons (tVar 2) tNil)) (tC (.int 3)))) (tTest (tOp (rNeU K) (tCB (rRepr K) (tCons (tVar 2) tNil)) (tCB (rRepr K) (tCons (tCall (sp_l_patch T) [] E0 (tCons (tVar 0) (tCons (tVar 1) tNil))) tNil)))))) (tRet (tC (.bl false))) tNext)
    (tSeq (tAsg (tVar 2) (gTup K 3 (gCons (gName 3) (gCons (gName 4) (gCons (gName 5) gNil)))))
    (tSeq (tIfS (tOr (tTest (tOp (rNeU K) (tOp (rAddU K) (tOp (rAddU K) (tSl (rSlU K) (tVar 0) tNoPart (tPart (tVar 3))) (tVar 5)) (tSl (rSlU K) (tVar 0) (tPart (tVar 4)) tNoPart)) (tVar 1))) (tNot (tTest (tChain3 rLeI rLeI rLeI (tC (.int 0)) (tVar 3) (tVar 4) (tCB (rLenU K) (tCons (tVar 0) tNil)))))) (tRet (tC (.bl false))) tNext)
    (tRet (tOp (rEqU K) (tAndV (tOp (rEqU K) (tVar 3) (tVar 4)) (tOp (rEqU K) (tCB (rLenU K) (tCons (tVar 5) tNil)) (tC (.int 0)))) (tOp (rEqU K) (tVar 0) (tVar 1))))))))

theorem pure_l_is_right (T : Txt K mg) (vs : List V) (H : Hp) (Q : VK) (E : XK) (h : sp_l_is_right T vs H Q E) : t_l_is_right T { nx := fun _ H' => Q .non H', rt := Q } (start ["_law_old", "_law_new", "_law_found", "_law_start", "_law_stop", "_law_some"] vs) H := by
  obtain ⟨k, v, u, xs, ys, rfl, q1, q2, f1, f2, q⟩ := h
  have l1 : K52.pst xs ys ≤ xs.length := K52.cpre_le1 xs ys
  have l2 : K52.pst xs ys ≤ ys.length := K52.cpre_le2 xs ys
  have m1 := K52.psm_le1 xs ys
  have m2 := K52.psm_le2 xs ys
  unfold t_l_is_right
  walk_at "rd"
  refine ⟨k, v, u, xs, ys, rfl, q1, q2, fun p c H1 s1 nc hp fp => ?_⟩
  walk_at "rd"
  refine r_iteND (fun h => absurd rfl h) (fun _ => ?_)
  have sm := patch_sm f1 f2 q2.cps
  have dp : ∀ {p : Addr} {c : V} {G : Hp}, IsQ G k c (K52.pmid xs ys) → G p = some (.tup [.int (K52.pst xs ys), .int (K52.pstop xs ys), c]) → Dp K G (.ref p) (patchD k xs ys) := fun hc hp =>
    .tup (qt hp) (.cons (.int _) (.cons (.int _) (.cons hc.dp .nil)))
  walk_at "rd"
  refine r_repr (dp nc.1 hp) sm.sh (small_line (Nat.le_trans sm.le (by decide))) (patch_depth k xs ys) ?_
  walk_at "rd"
  refine ⟨k, v, u, xs, ys, rfl, q1.same s1, q2.same s1, fun p2 c2 H2 s2 nc2 hp2 fp2 => ?_⟩
  walk_at "rd"
  refine r_repr (dp nc2.1 hp2) sm.sh (small_line (Nat.le_trans sm.le (by decide))) (patch_depth k xs ys) ?_
  walk_at "rd"
  refine r_iteND (fun h => absurd rfl h) (fun _ => ?_)
  have hp' := s2 _ _ hp
  have a1 := q1.same (s1.trans s2)
  have a2 := q2.same (s1.trans s2)
  have a3 := nc.1.same s2
  walk_at "rd"
  refine q_sl a1 (HT.sIx_none _ _) (sIx_le_nat rfl l1) fun v1 H3 t3 n3 => ?_
  walk_at "rd"
  have ml := K52.pmid_len xs ys
  have L1 := f1.len
  have L2 := f2.len
  refine q_add n3.1 (a3.same t3) (by simp only [List.length_take, List.length_drop]; omega) fun v2 H4 t4 n4 => ?_
  walk_at "rd"
  refine q_sl ((a1.same t3).same t4) (sIx_le_nat rfl (by unfold K52.pstop; omega)) (HT.sIx_none _ _) fun v3 H5 t5 n5 => ?_
  refine q_add (n4.1.same t5) n5.1 (by simp only [List.length_append, List.length_take, List.length_drop]; omega) fun v4 H6 t6 n6 => ?_
  have eall : xs.take (K52.pst xs ys - 0) ++ K52.pmid xs ys ++ (xs.drop (K52.pstop xs ys)).take (xs.length - K52.pstop xs ys) = ys := by
    have z : (xs.drop (K52.pstop xs ys)).take (xs.length - K52.pstop xs ys) = xs.drop (K52.pstop xs ys) := List.take_of_length_le (by rw [List.length_drop]; exact Nat.le_refl _)
    rw [Nat.sub_zero, z]
    exact K52.patch_right xs ys
  have eall' : (xs.drop 0).take (K52.pst xs ys - 0) ++ K52.pmid xs ys ++ (xs.drop (K52.pstop xs ys)).take (xs.length - K52.pstop xs ys) = ys := eall
  rw [eall'] at n6
  have sx : Same H2 H6 := t3.trans (t4.trans (t5.trans t6))
  have b1 := a1.same sx
  have b2 := a2.same sx
  have b3 := a3.same sx
  walk_at "rd"
  refine q_ne n6.1 b2 f2.chr f2.chr ?_
  walk_at "rd"
  refine r_iteND (fun h => absurd rfl h) (fun _ => ?_)
  walk_at "rd"
  refine r_iteD (fun _ => ?_) (fun h => absurd (Int.natCast_nonneg _) h)
  walk_at "rd"
  refine r_iteD (fun _ => ?_) (fun h => absurd ?_ h)
  rotate_left
  · unfold K52.pstop; omega
  walk_at "rd"
  have hle : ((K52.pstop xs ys : Nat) : Int) ≤ ((xs.length : Nat) : Int) := by unfold K52.pstop; omega
  rw [decide_eq_true hle]
  walk_at "rd"
  have fin := K52.empty_iff xs ys
  have E := q H6 (s1.trans (s2.trans sx))
  refine r_iteD (fun h => ?_) (fun h => ?_)
  · walk_at "rd"
    refine q_eq b1 b2 f1.chr f2.chr ?_
    walk_at "rd"
    have e : decide (decide (((K52.pmid xs ys).length : Int) = 0) = decide (xs = ys)) = true := by
      refine decide_eq_true ?_
      by_cases c : xs = ys
      · have z := fin.mpr c
        rw [decide_eq_true c, decide_eq_true]
        omega
      · rw [decide_eq_false c, decide_eq_false]
        intro z
        exact c (fin.mp ⟨by omega, by omega⟩)
    rw [e]
    exact E
  · walk_at "rd"
    refine q_eq b1 b2 f1.chr f2.chr ?_
    walk_at "rd"
    have c : ¬ xs = ys := fun c => h (by have := (fin.mpr c).1; omega)
    rw [decide_eq_false c]
    exact E
theorem ok_l_is_right (T : Txt K mg) : FnG P w K mg base CX0 3 T.l_is_right_a T.l_is_right_d ["_law_old", "_law_new"] (sp_l_is_right T) := by
  refine fnG_ok T.l_is_right_f sc_l_is_right (fun vs H Q E h => len_l_is_right T vs H Q E h) (fun cdv A outer s H vs Q E hG hr h => ⟨t_l_is_right T, PSs.nox ?_, pure_l_is_right T vs H Q E h⟩)
  have hu := hu64 hr
  exact (pss_cons (ps_set (i := 2) sc_l_is_right.nd rfl (.inl rfl) (pe_call (ok_least_patch T) (hr.mono (by decide)) (by rfl) T.least_patch_g T.least_patch_f.kp T.least_patch_b .nil pass0 (pa_cons (pv 0) (pa_cons (pv 1) pa_nil))))
      (pss_cons (ps_if (PW.pt (pw_or (pt_not (pt_val (pe_callB call_isi (by rfl) T.n_isinstance (by decide +kernel) (pa_cons (pv 2) (pa_cons (pe_bltn (v := .ty "tuple") (by rfl) T.n_tuple (by decide +kernel) rfl) pa_nil))))) (pw_or (pt_cmpR (op_neU hu) (pe_callB c_lenU (by rfl) T.n_len (by decide +kernel) (pa_cons (pv 2) pa_nil)) pe_int (nomark _)) (pw_or1 (pt_cmpR (op_neU hu) (pe_callB (c_repr hG hu) (by rfl) T.n_repr (by decide +kernel) (pa_cons (pv 2) pa_nil)) (pe_callB (c_repr hG hu) (by rfl) T.n_repr (by decide +kernel) (pa_cons (pe_call (ok_l_patch T) (hr.mono (by decide)) (by rfl) T.l_patch_g T.l_patch_f.kp T.l_patch_b .nil pass0 (pa_cons (pv 0) (pa_cons (pv 1) pa_nil))) pa_nil)) (nomark _)))))) (pss_one (ps_ret pe_bl)) pss_nil)
      (pss_cons (ps_asg (pv 2) (pg_tup (by rfl) (pgs_cons (pg_name (i := 3) sc_l_is_right.nd rfl (.inl rfl)) (pgs_cons (pg_name (i := 4) sc_l_is_right.nd rfl (.inl rfl)) (pgs_cons (pg_name (i := 5) sc_l_is_right.nd rfl (.inl rfl)) pgs_nil)))))
      (pss_cons (ps_if (PW.pt (pw_or (pt_cmpR (op_neU hu) (pe_op op_addU (pe_op op_addU (pe_slice sl_U (pv 0) po_none (po_some (pv 3))) (pv 5)) (pe_slice sl_U (pv 0) (po_some (pv 4)) po_none)) (pv 1) (nomark _)) (pw_or1 (pt_not (pt_chain3 op_le op_le op_le pe_int (pv 3) (pv 4) (pe_callB c_lenU (by rfl) T.n_len (by decide +kernel) (pa_cons (pv 0) pa_nil))))))) (pss_one (ps_ret pe_bl)) pss_nil)
      (pss_one (ps_ret (pe_cmpR (op_eqU hu) (pe_and (pe_cmpR (op_eqU hu) (pv 3) (pv 4) (nomark _)) (pe_one (pe_cmpR (op_eqU hu) (pe_callB c_lenU (by rfl) T.n_len (by decide +kernel) (pa_cons (pv 5) pa_nil)) pe_int (nomark _)))) (pe_cmpR (op_eqU hu) (pv 0) (pv 1) (nomark _)) (nomark _))))))))


end
section
variable {P : Program} {w : World} {K : PySem.W.Frag} {mg : Str → Option Value} {base : Heap}
def sp_law (T : Txt K mg) : Sp := fun vs H Q _ => ∃ (a : Addr) (ns : List Int), vs = [.ref a] ∧ SqL K H a (ns.map V.int) ∧ ns.length ≤ 63 ∧ ∀ H', Q (.bl true) H'
theorem len_law (T : Txt K mg) (vs : List V) (H : Hp) (Q : VK) (E : XK) (h : sp_law T vs H Q E) : vs.length = 1 := by
  obtain ⟨_, _, rfl, _⟩ := h
  rfl
theorem dig_str {z : Int} (h : 0 ≤ z ∧ z ≤ 2) : (Str.ofString (toString z)) = sOf [z + 48] := by
  have e : z = 0 ∨ z = 1 ∨ z = 2 := by omega
  rcases e with rfl | rfl | rfl <;> rfl
theorem dig_at {z : Int} (h : 0 ≤ z ∧ z ≤ 2) : atI (Str.ofString "012").cps.toList z = some (z + 48).toNat := by
  have e : z = 0 ∨ z = 1 ∨ z = 2 := by omega
  rcases e with rfl | rfl | rfl <;> rfl
theorem p0_shaped (k : Bool) : SeqAt.shaped (patchD k [] []) = true := by
  have e : K52.pmid [] [] = [] := rfl
  unfold SeqAt.shaped patchD
  rw [e]
  cases k <;> simp [PyData.canLay0, PyData.canLayAll0, PyData.depth, PyData.depthAll, dq, PyData.strOk, sOf]
theorem p0_eqv (k : Bool) : PyData.eqv (patchD k [] []) (patchD k [] []) = true := by
  have e : K52.pmid [] [] = [] := rfl
  unfold patchD
  rw [e]
  cases k <;> simp [PyData.eqv, PyData.eqvAll, dq]
def up48 (xs : List Int) : List Int := xs.map (· + 48)
def signs (xs : List Int) : List Str := xs.map fun x => sOf [x + 48]
theorem join_signs : ∀ xs : List Int, Str.join (Str.ofString "") (signs xs) = sOf (up48 xs)
  | [] => rfl
  | [x] => rfl
  | x :: y :: r => by
    have ih := join_signs (y :: r)
    have e : signs (x :: y :: r) = sOf [x + 48] :: signs (y :: r) := rfl
    have e2 : signs (y :: r) = sOf [y + 48] :: signs r := rfl
    rw [e, e2, join_cons_cons, ← e2, ih]
    have e3 : sOf [x + 48] ++ Str.ofString "" = sOf [x + 48] := by
      show (⟨(sOf [x + 48]).cps ++ #[]⟩ : Str) = _
      simp
    rw [e3, sOf_append]
    rfl
theorem txt_join (xs : List Int) : Txt.join (Str.ofString "") (signs xs) = sOf (up48 xs) := by
  rw [← join_signs]
  exact PySem.StrLaws.glued_eq_join _ _
theorem signs_sum : ∀ xs : List Int, ((signs xs).map (·.length)).sum = xs.length
  | [] => rfl
  | x :: r => by
    show (sOf [x + 48]).length + ((signs r).map (·.length)).sum = r.length + 1
    rw [signs_sum r, sOf_len]
    show 1 + r.length = _
    omega
theorem signs_len (xs : List Int) : (signs xs).length = xs.length := List.length_map ..
theorem signs_take {xs : List Int} {i : Nat} {z : Int} (h : xs[i]? = some z) : (signs (xs.take (i + 1))).map V.str = (signs (xs.take i)).map V.str ++ [V.str (sOf [z + 48])] := by
  unfold signs
  rw [List.take_add_one, h, List.map_append, List.map_append]
  rfl
theorem int_at {xs : List Int} {i : Nat} {x : V} (h : (xs.map V.int)[i]? = some x) : ∃ z, xs[i]? = some z ∧ x = .int z := by
  rw [List.getElem?_map] at h
  cases e : xs[i]? with
  | none => rw [e] at h; cases h
  | some a => rw [e] at h; exact ⟨a, rfl, (Option.some.inj h).symm⟩
theorem Dig.fine {xs : List Int} (d : Dig xs) (l : xs.length ≤ 1000) : Fine false xs := ⟨l, noStr, fun x hx => by have := d x hx; omega⟩
theorem Dig.fineT {xs : List Int} (d : Dig xs) (l : xs.length ≤ 1000) : Fine true (up48 xs) :=
  ⟨by unfold up48; rw [List.length_map]; exact l, fun _ x hx => by obtain ⟨y, hy, rfl⟩ := List.mem_map.mp hx; have := d y hy; omega, fun x hx => by obtain ⟨y, hy, rfl⟩ := List.mem_map.mp hx; have := d y hy; omega⟩
theorem Dig.cps {xs : List Int} (d : Dig xs) : Cps (up48 xs) := fun x hx => by obtain ⟨y, hy, rfl⟩ := List.mem_map.mp hx; have := d y hy; omega
theorem Dig.isT {xs : List Int} (d : Dig xs) (l : xs.length ≤ 1000) (H : Hp) : IsQ H true (.str (sOf (up48 xs))) (up48 xs) := ⟨by unfold up48; rw [List.length_map]; omega, .inr ⟨rfl, rfl, d.cps⟩⟩
theorem isL {H : Hp} {p : Addr} {xs : List Int} (l : xs.length ≤ 1000) (e : H p = some (.lst (xs.map V.int))) : IsQ H false (.ref p) xs := ⟨by omega, .inl ⟨rfl, p, rfl, e⟩⟩
def t_law (T : Txt K mg) : TS := (tSeq (tFor (iRng1 (tCons (tCB rMax2 (tCons (tC (.int 1)) (tCons (tCB rMin2 (tCons (tC (.int 4)) (tCons (tCB (rLenU K) (tCons (tVar 0) tNil)) tNil))) tNil))) tNil)) (gName 1) (tSeq (tAsg (tCall (sp_l_bag T) [] E0 (tCons (tVar 0) (tCons (tVar 1) tNil))) (gName 2))
    (tFor (iRng1 (tCons (tC (.int 12)) tNil)) (gName 3) (tSeq (tPar 4 5 (tCons (tCall (sp_l_drawn T) [] E0 (tCons (tVar 2) (tCons (tOp (rIx K) (tLst (tCons (tC (.int 7)) (tCons (tC (.int 60)) tNil))) (tOp rModI (tVar 3) (tC (.int 2)))) tNil))) (tCons (tCall (sp_l_drawn T) [] E0 (tCons (tVar 2) (tCons (tC (.int 7)) tNil))) tNil)))
    (tSeq (tIfS (tTest (tOp (rEqU K) (tOp rModI (tVar 3) (tC (.int 2))) (tC (.int 1)))) (tSeq (tAsg (tCall (sp_l_take T) [] E0 (tCons (tVar 2) (tCons (tOp (rAddU K) (tCB (rLenU K) (tCons (tVar 4) tNil)) (tC (.int 1))) tNil))) (gName 6))
    (tAsg (tOp (rAddU K) (tOp (rAddU K) (tSl (rSlU K) (tVar 4) tNoPart (tPart (tVar 6))) (tVar 5)) (tSl (rSlU K) (tVar 4) (tPart (tOp (rAddU K) (tVar 6) (tCall (sp_l_take T) [] E0 (tCons (tVar 2) (tCons (tC (.int 9)) tNil))))) tNoPart)) (gName 5))) tNext)
    (tSeq (tPar 7 8 (tCons (tCB (rListOf K) (tCons (tVar 4) tNil)) (tCons (tCB (rListOf K) (tCons (tVar 5) tNil)) tNil)))
    (tSeq (tIfS (tOr (tNot (tB (tCall (sp_l_is_right T) [] E0 (tCons (tVar 4) (tCons (tVar 5) tNil))))) (tOr (tTest (tOp (rNeU K) (tVar 4) (tVar 7))) (tTest (tOp (rNeU K) (tVar 5) (tVar 8))))) (tRet (tC (.bl false))) tNext)
    (tSeq (tPar 9 10 (tCons (tJoinU K (tC (.str (Str.ofString ""))) (tLc (iSeqU K (tVar 4)) (gName 14) tYes (tCB rStrI (tCons (tVar 14) tNil)) [14])) (tCons (tJoinU K (tC (.str (Str.ofString ""))) (tLc (iSeqU K (tVar 5)) (gName 14) tYes (tOp (rIx K) (tC (.str (Str.ofString "012"))) (tVar 14)) [14])) tNil)))
    (tSeq (tIfS (tOr (tNot (tB (tCall (sp_l_is_right T) [] E0 (tCons (tVar 9) (tCons (tVar 10) tNil))))) (tOr (tNot (tB (tCall (sp_l_is_right T) [] E0 (tCons (tVar 5) (tCons (tVar 4) tNil))))) (tNot (tB (tCall (sp_l_is_right T) [] E0 (tCons (tVar 4) (tCons (tVar 4) tNil))))))) (tRet (tC (.bl false))) tNext)
    (tSeq (tAsg (tCall (sp_least_patch T) [] E0 (tCons (tVar 4) (tCons (tVar 5) tNil))) (gTup K 3 (gCons (gName 11) (gCons (gName 12) (gCons (gName 13) gNil)))))
    (tSeq (tIfS (tAnd (tTest (tOp rLtI (tCB (rLenU K) (tCons (tVar 4) tNil)) (tC (.int 9)))) (tTest (tOp (rNeU K) (tOp (rAddU K) (tOp rSubI (tVar 12) (tVar 11)) (tCB (rLenU K) (tCons (tVar 13) tNil))) (tCB (rMin K) (tCons (tCall (sp_l_all_sizes T) [] E0 (tCons (tVar 4) (tCons (tVar 5) tNil))) tNil))))) (tRet (tC (.bl false))) tNext)
    (tSeq (tDrop (tBM K "list" rAppend (tVar 13) (tCons (tC (.int 9)) tNil)))
    (tIfS (tOr (tTest (tOp (rNeU K) (tVar 5) (tVar 8))) (tOr (tTest (tOp (rNeU K) (tCall (sp_least_patch T) [] E0 (tCons (tC (.str (Str.ofString ""))) (tCons (tC (.str (Str.ofString ""))) tNil))) (tTup (tCons (tC (.int 0)) (tCons (tC (.int 0)) (tCons (tC (.str (Str.ofString ""))) tNil)))))) (tTest (tOp (rNeU K) (tCall (sp_least_patch T) [] E0 (tCons (tLst tNil) (tCons (tLst tNil) tNil))) (tTup (tCons (tC (.int 0)) (tCons (tC (.int 0)) (tCons (tLst tNil) tNil)))))))) (tRet (tC (.bl false))) tNext)))))))))))))
    (tRet (tC (.bl true))))

theorem pure_law (T : Txt K mg) (vs : List V) (H : Hp) (Q : VK) (E : XK) (h : sp_law T vs H Q E) : t_law T { nx := fun _ H' => Q .non H', rt := Q } (start ["_law_script", "_law_at", "_law_bag_here", "_law_turn", "_law_old", "_law_new", "_law_spot", "_law_kept", "_law_ahead", "_law_one", "_law_other", "_law_start", "_law_stop", "_law_some", "_law_part"] vs) H := by
  obtain ⟨a, ns, rfl, hS, hn, q⟩ := h
  unfold t_law
  walk_at "rd"
  generalize hc : (if (if ((List.map V.int ns).length : Int) < 4 then ((List.map V.int ns).length : Int) else 4) > 1 then (if ((List.map V.int ns).length : Int) < 4 then ((List.map V.int ns).length : Int) else 4) else 1) = cnt
  obtain ⟨cn, rfl, hcn⟩ : ∃ m : Nat, cnt = m ∧ m ≤ 4 := by
    refine ⟨cnt.toNat, ?_, ?_⟩
    · rw [← hc]; split <;> split <;> omega
    · rw [← hc]; split <;> split <;> omega
  refine r_one ⟨by omega, by omega⟩ ?_
  refine f_it (walk_range (lo := 0) (n := cn)) (fun i σ G => ∃ v1 v2 v3 v4 v5 v6 v7 v8 v9 v10 v11 v12 v13 v14, σ = [some (.ref a), v1, v2, v3, v4, v5, v6, v7, v8, v9, v10, v11, v12, v13, v14] ∧ Same H G)
    ⟨_, _, _, _, _, _, _, _, _, _, _, _, _, _, rfl, Same.refl H⟩ (fun _ _ _ _ _ => trivial) ?_ ?_
  · rintro i x σ G G' hi ⟨v1, v2, v3, v4, v5, v6, v7, v8, v9, v10, v11, v12, v13, v14, rfl, s⟩ ⟨rfl, rfl⟩
    walk_at "rd"
    refine ⟨a, ns, i, by simp, s.seq hS, hn, by omega, fun b H0 s0 nb hb0 => ?_⟩
    walk_at "rd"
    refine r_one ⟨by decide, by decide⟩ ?_
    refine f_it (walk_range (lo := 0) (n := 12)) (fun j σ G => ∃ v3 v4 v5 v6 v7 v8 v9 v10 v11 v12 v13 v14, σ = [some (.ref a), some (.int (0 + (i : Int))), some (.ref b), v3, v4, v5, v6, v7, v8, v9, v10, v11, v12, v13, v14] ∧ Same G' G ∧ BagAt G b (1000000 - 1000 * j))
      ⟨_, _, _, _, _, _, _, _, _, _, _, _, rfl, s0, hb0⟩ (fun _ _ _ _ _ => trivial) ?_ ?_
    · clear hb0 s0
      rintro j x σ G2 G2' hj ⟨w3, w4, w5, w6, w7, w8, w9, w10, w11, w12, w13, w14, rfl, s2, hb⟩ ⟨rfl, rfl⟩
      walk_at "rd"
      walk_at "new"
      obtain ⟨m, hm, hm60⟩ : ∃ m : Nat, atI [V.int 7, V.int 60] ((0 + (j : Int)).fmod 2) = some (.int m) ∧ m ≤ 60 := by
        have h : (0 + (j : Int)).fmod 2 = 0 ∨ (0 + (j : Int)).fmod 2 = 1 := by
          have h1 := Int.fmod_nonneg_of_pos (0 + (j : Int)) (b := 2) (by decide)
          have h2 := Int.fmod_lt_of_pos (0 + (j : Int)) (b := 2) (by decide)
          omega
        rcases h with h | h
        · exact ⟨7, by rw [h]; rfl, by decide⟩
        · exact ⟨60, by rw [h]; rfl, by decide⟩
      walk_at "rd"
      refine ⟨b, m, 1000000 - 1000 * j - 100, rfl, (hb.same hs).mono (by omega), hm60, fun po xs H2 dx lx npo hpo sb2 hb2 => ?_⟩
      walk_at "rd"
      refine ⟨b, 7, 1000000 - 1000 * j - 200, rfl, hb2.mono (by omega), by decide, fun pn ys H3 dy ly npn hpn sb3 hb3 => ?_⟩
      have nePo : po ≠ b := (hb.same hs).ne npo
      have nePn : pn ≠ b := hb2.ne npn
      have hpo3 : H3 po = some (.lst (xs.map V.int)) := gb sb3 nePo hpo
      have s3 : Same G' H3 := same_mutB nb (same_mutB nb (s2.trans hs) sb2) sb3
      walk_at "rx"
      refine r_seqH (fun σ G => ∃ pn ys w6 w7 w8 w9 w10 w11 w12 w13 w14, σ = [some (.ref a), some (.int (0 + (i : Int))), some (.ref b), some (.int (0 + (j : Int))), some (.ref po), some (.ref pn), w6, w7, w8, w9, w10, w11, w12, w13, w14] ∧
        Dig ys ∧ ys.length ≤ 127 ∧ G po = some (.lst (xs.map V.int)) ∧ G pn = some (.lst (ys.map V.int)) ∧ Same G' G ∧ BagAt G b (1000000 - 1000 * (j + 1))) ?_ fun rest => ?_
      · clear hpn ly dy ys npn nePn hb3 sb3 s3 hpo3 H3 pn
        rintro σ G ⟨pn, ys, w6, w7, w8, w9, w10, w11, w12, w13, w14, rfl, dy, ly, go, gn, sG, hB⟩
        have lx' : xs.length ≤ 1000 := by omega
        have ly' : ys.length ≤ 1000 := by omega
        walk_at "rd"
        intro pk nk
        generalize hgk : upd _ pk _ = Hk
        have sk := same_of hgk nk
        have vk := at_of hgk
        clear hgk
        walk_at "rd"
        intro pa na
        generalize hga : upd _ pa _ = Ha
        have sa := same_of hga na
        have va := at_of hga
        clear hga
        have ska := sk.trans sa
        have qo := isL lx' (ska _ _ go)
        have qn := isL ly' (ska _ _ gn)
        have qk := isL lx' (sa _ _ vk)
        have qa := isL ly' va
        walk_at "rd"
        refine ⟨false, _, _, xs, ys, rfl, qo, qn, dx.fine lx', dy.fine ly', fun H1 s1 => ?_⟩
        walk_at "rd"
        refine q_ne (qo.same s1) (qk.same s1) noStr noStr ?_
        walk_at "rd"
        refine r_iteND (fun h => absurd rfl h) (fun _ => ?_)
        walk_at "rd"
        refine q_ne (qn.same s1) (qa.same s1) noStr noStr ?_
        walk_at "rd"
        refine r_iteND (fun h => absurd rfl h) (fun _ => ?_)
        walk_at "rd"
        refine r_join ?_ rfl
        walk_at "rd"
        refine r_iseqL ?_
        walk_at "rd"
        have go1 := s1 _ _ (ska _ _ go)
        have gn1 := s1 _ _ (ska _ _ gn)
        refine ⟨po, rfl, ⟨_, ql go1⟩, fun d1 hd1 => ?_⟩
        refine c_it (walk_list (K := K) (a := po) (xs := xs.map V.int)) (fun i G => G d1 = some (.lst ((signs (xs.take i)).map V.str)) ∧ Same H1 G) ⟨upd_same, same_new hd1⟩ (fun i G _ h => ql (h.2 _ _ go1)) ?_ ?_
        · rintro i x G G' hi ⟨hD, sD⟩ ⟨rfl, hx⟩
          obtain ⟨z, hz, rfl⟩ := int_at hx
          have dz := dx z (List.mem_of_getElem? hz)
          walk_at "rd"
          refine ⟨rfl, ?_⟩
          walk_at "rd"
          refine r_strI (lt_log (by omega)) ?_
          refine ⟨_, hD, ?_, ?_, same_mut sD hd1⟩
          · rw [List.length_map, signs_len, List.length_take]
            exact Nat.lt_of_le_of_lt (Nat.min_le_right _ _) (small1000 lx')
          · rw [upd_same, signs_take hz, dig_str dz]
        rintro G2 ⟨hD, sD⟩
        rw [List.length_map, List.take_of_length_le (Nat.le_refl _)] at hD
        refine ⟨_, d1, signs xs, rfl, rfl, .inl (ql hD), ?_, ?_⟩
        · rw [signs_sum]
          show _ + _ * 0 ≤ _
          omega
        rw [txt_join]
        have go2 := sD _ _ go1
        have gn2 := sD _ _ gn1
        walk_at "rd"
        refine r_join ?_ rfl
        walk_at "rd"
        refine r_iseqL ?_
        walk_at "rd"
        refine ⟨pn, rfl, ⟨_, ql gn2⟩, fun d2 hd2 => ?_⟩
        refine c_it (walk_list (K := K) (a := pn) (xs := ys.map V.int)) (fun i G => G d2 = some (.lst ((signs (ys.take i)).map V.str)) ∧ Same G2 G) ⟨upd_same, same_new hd2⟩ (fun i G _ h => ql (h.2 _ _ gn2)) ?_ ?_
        · rintro i x G G' hi ⟨hD, sD⟩ ⟨rfl, hx⟩
          obtain ⟨z, hz, rfl⟩ := int_at hx
          have dz := dy z (List.mem_of_getElem? hz)
          walk_at "rd"
          refine ⟨rfl, ?_⟩
          walk_at "rd"
          refine r_ixS (by decide) (dig_at dz) ?_
          refine ⟨_, hD, ?_, ?_, same_mut sD hd2⟩
          · rw [List.length_map, signs_len, List.length_take]
            exact Nat.lt_of_le_of_lt (Nat.min_le_right _ _) (small1000 ly')
          · rw [upd_same, signs_take hz]
            rfl
        rintro G3 ⟨hD', sD'⟩
        rw [List.length_map, List.take_of_length_le (Nat.le_refl _)] at hD'
        refine ⟨_, d2, signs ys, rfl, rfl, .inl (ql hD'), ?_, ?_⟩
        · rw [signs_sum]
          show _ + _ * 0 ≤ _
          omega
        rw [txt_join]
        have sG3 : Same Ha G3 := s1.trans (sD.trans sD')
        walk_at "rd"
        refine ⟨true, _, _, up48 xs, up48 ys, rfl, dx.isT lx' _, dy.isT ly' _, dx.fineT lx', dy.fineT ly', fun H4 s4 => ?_⟩
        walk_at "rd"
        refine ⟨false, _, _, ys, xs, rfl, qn.same (sG3.trans s4), qo.same (sG3.trans s4), dy.fine ly', dx.fine lx', fun H5 s5 => ?_⟩
        walk_at "rd"
        refine ⟨false, _, _, xs, xs, rfl, qo.same (sG3.trans (s4.trans s5)), qo.same (sG3.trans (s4.trans s5)), dx.fine lx', dx.fine lx', fun H6 s6 => ?_⟩
        have s36 : Same Ha H6 := sG3.trans (s4.trans (s5.trans s6))
        walk_at "rd"
        refine ⟨false, _, _, xs, ys, rfl, qo.same s36, qn.same s36, fun pp c H7 s7 nc hpp npp => ?_⟩
        obtain ⟨⟨lc, ⟨_, pc, rfl, ec⟩ | ⟨z, _⟩⟩, fc⟩ := nc
        rotate_left
        · cases z
        have fpc := fc pc rfl
        have sH : Same G' H6 := (sG.trans ska).trans s36
        have nPn : pn ≠ pc := ne_of_none (s36 _ _ (ska _ _ gn)) fpc
        have nPa : pa ≠ pc := ne_of_none (s36 _ _ va) fpc
        have nPb : pc ≠ b := ((hB.same ska).same s36).ne fpc
        have go7 : H7 po = some (.lst (xs.map V.int)) := s7 _ _ (s36 _ _ (ska _ _ go))
        have gn7 : H7 pn = some (.lst (ys.map V.int)) := s7 _ _ (s36 _ _ (ska _ _ gn))
        have ga7 : H7 pa = some (.lst (ys.map V.int)) := s7 _ _ (s36 _ _ va)
        have lmid : (K52.pmid xs ys).length ≤ 1000 := by rw [K52.pmid_len]; omega
        walk_at "rx"
        refine r_seqH (fun σ G => σ = [some (.ref a), some (.int (0 + (i : Int))), some (.ref b), some (.int (0 + (j : Int))), some (.ref po), some (.ref pn), w6, some (.ref pk), some (.ref pa), some (.str (sOf (up48 xs))), some (.str (sOf (up48 ys))), some (.int (K52.pst xs ys)), some (.int (K52.pstop xs ys)), some (.ref pc), w14] ∧ Same H7 G) ?_ fun tail => ?_
        · rintro σ G8 ⟨rfl, s8⟩
          walk_at "rd"
          refine ⟨r_tyL (ql (s8 _ _ ec)), ?_⟩
          walk_at "rd"
          refine r_append (s8 _ _ ec) (by rw [List.length_map]; exact Nat.lt_of_le_of_lt lmid (by rw [sizeLine_eq]; decide)) ?_
          generalize hgc : upd G8 pc _ = H9
          have gn9 : H9 pn = some (.lst (ys.map V.int)) := by rw [← hgc]; exact (upd_ne nPn).trans (s8 _ _ gn7)
          have ga9 : H9 pa = some (.lst (ys.map V.int)) := by rw [← hgc]; exact (upd_ne nPa).trans (s8 _ _ ga7)
          have sG9 : Same G' H9 := by rw [← hgc]; exact same_mut (sH.trans (s7.trans s8)) (sH.free fpc)
          have hB9 : BagAt H9 b (1000000 - 1000 * (j + 1)) := by rw [← hgc]; exact ((((hB.same ska).same s36).same s7).same s8).upd nPb
          clear hgc
          walk_at "rd"
          refine q_ne (isL ly' gn9) (isL ly' ga9) noStr noStr ?_
          walk_at "rd"
          refine r_iteND (fun h => absurd rfl h) (fun _ => ?_)
          walk_at "rd"
          refine ⟨true, _, _, [], [], rfl, ⟨by decide, .inr ⟨rfl, rfl, nofun⟩⟩, ⟨by decide, .inr ⟨rfl, rfl, nofun⟩⟩, fun p1 c1 H10 s10 nc1 hp1 fp1 => ?_⟩
          walk_at "rd"
          refine And.intro (by walk_at "sz") ?_
          intro p2 np2
          generalize hg2 : upd _ p2 _ = H11
          have s11 := same_of hg2 np2
          have hp2 := at_of hg2
          clear hg2
          refine r_neUD (d := patchD true [] []) (e := patchD true [] []) (.tup (qt (s11 _ _ hp1)) (.cons (.int _) (.cons (.int _) (.cons (nc1.1.same s11).dp .nil)))) (.tup (qt hp2) (.cons (.int _) (.cons (.int _) (.cons (.str _) .nil)))) (p0_shaped true) (p0_shaped true) ?_
          rw [p0_eqv]
          walk_at "rd"
          refine And.intro (by walk_at "sz") ?_
          intro p3 np3
          generalize hg3 : upd _ p3 _ = H12
          have s12 := same_of hg3 np3
          have hp3 := at_of hg3
          clear hg3
          walk_at "rd"
          refine And.intro (by walk_at "sz") ?_
          intro p4 np4
          generalize hg4 : upd _ p4 _ = H13
          have s13 := same_of hg4 np4
          have hp4 := at_of hg4
          clear hg4
          walk_at "rd"
          refine ⟨false, _, _, [], [], rfl, isL (by decide) (s13 _ _ hp3), isL (by decide) hp4, fun p5 c5 H14 s14 nc5 hp5 fp5 => ?_⟩
          walk_at "rd"
          refine And.intro (by walk_at "sz") ?_
          intro p6 np6
          generalize hg6 : upd _ p6 _ = H15
          have s15 := same_of hg6 np6
          have hp6 := at_of hg6
          clear hg6
          walk_at "rd"
          refine And.intro (by walk_at "sz") ?_
          intro p7 np7
          generalize hg7 : upd _ p7 _ = H16
          have s16 := same_of hg7 np7
          have hp7 := at_of hg7
          clear hg7
          refine r_neUD (d := patchD false [] []) (e := patchD false [] []) (.tup (qt (s16 _ _ (s15 _ _ hp5))) (.cons (.int _) (.cons (.int _) (.cons ((nc5.1.same s15).same s16).dp .nil)))) (.tup (qt hp7) (.cons (.int _) (.cons (.int _) (.cons (.lst (ql (s16 _ _ hp6)) .nil) .nil)))) (p0_shaped false) (p0_shaped false) ?_
          rw [p0_eqv]
          walk_at "rd"
          have sz := s10.trans (s11.trans (s12.trans (s13.trans (s14.trans (s15.trans s16)))))
          exact ⟨_, _, _, _, _, _, _, _, _, _, _, _, rfl, sG9.trans sz, hB9.same sz⟩
        · walk_at "rx"
          refine r_iteD (fun h9 => ?_) (fun h9 => ?_)
          · walk_at "rx"
            refine ⟨_, _, xs, ys, rfl, (qo.same s36).same s7, (qn.same s36).same s7, lx', ly', fun pz zs H8 s8 npz hpz hge hin => ?_⟩
            walk_at "rx"
            refine r_min (ql hpz) (by cases zs with | nil => cases hin | cons _ _ => exact Nat.succ_pos _) fun m' hm' hmin => ?_
            have em : m' = bestZ xs ys := Int.le_antisymm (hmin _ hin) (hge _ hm')
            walk_at "rx"
            refine r_iteND (fun h => absurd ?_ h) (fun _ => ?_)
            · have l1 := K52.psm_le1 xs ys
              have l2 := K52.psm_le2 xs ys
              rw [em, List.length_map, K52.pmid_len]
              unfold bestZ K52.pstop
              omega
            · walk_at "rx"
              exact tail _ _ ⟨rfl, s8⟩
          · walk_at "rx"
            exact tail _ _ ⟨rfl, Same.refl _⟩
      · walk_at "rx"
        refine r_iteD (fun hodd => ?_) (fun hodd => ?_)
        · walk_at "rd"
          refine ⟨b, _, 1000000 - 1000 * j - 201, rfl, hb3.mono (by omega), by rw [List.length_map]; omega, by rw [List.length_map]; omega, fun r H4 r0 r1 hb4 sb4 => ?_⟩
          rw [List.length_map] at r1
          obtain ⟨r, rfl⟩ : ∃ k : Nat, r = k := ⟨r.toNat, by omega⟩
          have go4 : H4 po = some (.lst (xs.map V.int)) := gb sb4 nePo hpo3
          have gn4 : H4 pn = some (.lst (ys.map V.int)) := gb sb4 nePn hpn
          have qo4 : IsQ H4 false (.ref po) xs := ⟨by omega, .inl ⟨rfl, po, rfl, go4⟩⟩
          have qn4 : IsQ H4 false (.ref pn) ys := ⟨by omega, .inl ⟨rfl, pn, rfl, gn4⟩⟩
          walk_at "rd"
          refine q_sl qo4 (HT.sIx_none _ _) (sIx_le_nat rfl (by omega)) fun c1 H5 t5 n5 => ?_
          walk_at "rd"
          refine q_add n5.1 (qn4.same t5) (by rw [List.length_take, List.length_drop]; omega) fun c2 H6 t6 n6 => ?_
          walk_at "rd"
          refine ⟨b, 9, 1000000 - 1000 * j - 202, rfl, ((hb4.same t5).same t6).mono (by omega), by decide, by decide, fun r' H7 r0' r1' hb7 sb7 => ?_⟩
          obtain ⟨r', rfl⟩ : ∃ k : Nat, r' = k := ⟨r'.toNat, by omega⟩
          have s6 : SameB b H4 H6 := toB (t5.trans t6)
          have go7 : H7 po = some (.lst (xs.map V.int)) := sb7 _ _ nePo (t6 _ _ (t5 _ _ go4))
          have qo7 : IsQ H7 false (.ref po) xs := ⟨by omega, .inl ⟨rfl, po, rfl, go7⟩⟩
          have n6' : IsQ H7 false c2 ((xs.drop 0).take (r - 0) ++ ys) := by
            obtain ⟨⟨l6, ⟨_, c, rfl, e6⟩ | ⟨z, _⟩⟩, f6⟩ := n6
            · have fc := t5.free (f6 c rfl)
              exact ⟨l6, .inl ⟨rfl, c, rfl, sb7 _ _ (hb4.ne fc) e6⟩⟩
            · cases z
          walk_at "rx"
          refine q_sl (a := min (r + r') xs.length) qo7 ?_ (HT.sIx_none _ _) fun c3 H8 t8 n8 => ?_
          · have e : ((r : Int) + (r' : Int)) = ((r + r' : Nat) : Int) := by omega
            rw [e, HT.sIx_nat]
          refine q_add (n6'.same t8) n8.1 (by simp only [List.length_append, List.length_take, List.length_drop]; omega) fun c4 H9 t9 n9 => ?_
          walk_at "rx"
          obtain ⟨⟨l9, ⟨_, pc, rfl, e9⟩ | ⟨z, _⟩⟩, f9⟩ := n9
          · refine rest _ _ ⟨pc, _, _, _, _, _, _, _, _, _, _, rfl, ?_, ?_, t9 _ _ (t8 _ _ go7), e9, ?_, ((hb7.same t8).same t9).mono (by omega)⟩
            · intro x hx
              rcases List.mem_append.mp hx with h | h
              · rcases List.mem_append.mp h with h | h
                · exact dx x (List.mem_of_mem_drop (List.mem_of_mem_take h))
                · exact dy x h
              · exact dx x (List.mem_of_mem_drop (List.mem_of_mem_take h))
            · simp only [List.length_append, List.length_take, List.length_drop]
              omega
            · exact (same_mutB nb (same_mutB nb s3 (sb4.trans s6)) sb7).trans (t8.trans t9)
          · cases z
        · walk_at "rx"
          exact rest _ _ ⟨pn, ys, _, _, _, _, _, _, _, _, _, rfl, dy, by omega, hpo3, hpn, s3, hb3.mono (by omega)⟩
    · rintro σ G2 ⟨w3, w4, w5, w6, w7, w8, w9, w10, w11, w12, w13, w14, rfl, s2, hb⟩
      exact ⟨_, _, _, _, _, _, _, _, _, _, _, _, _, _, rfl, s.trans s2⟩
  · rintro σ G ⟨v1, v2, v3, v4, v5, v6, v7, v8, v9, v10, v11, v12, v13, v14, rfl, s⟩
    walk_at "rd"
    exact q G
theorem ok_law (T : Txt K mg) : FnG P w K mg base CX0 4 T.law_a T.law_d ["_law_script"] (sp_law T) := by
  refine fnG_ok T.law_f sc_law (fun vs H Q E h => len_law T vs H Q E h) (fun cdv A outer s H vs Q E hG hr h => ⟨t_law T, PSs.nox ?_, pure_law T vs H Q E h⟩)
  have hu := hu64 hr
  exact (pss_cons (ps_for PassesOwn.never rfl (pi_range1 (by rfl) T.n_range (pa_cons (pe_callB (call_max2 rfl) (by rfl) T.n_max (by decide +kernel) (pa_cons pe_int (pa_cons (pe_callB (call_min2 rfl) (by rfl) T.n_min (by decide +kernel) (pa_cons pe_int (pa_cons (pe_callB c_lenU (by rfl) T.n_len (by decide +kernel) (pa_cons (pv 0) pa_nil)) pa_nil))) pa_nil))) pa_nil)) (pg_name (i := 1) sc_law.nd rfl (.inl rfl)) (pss_cons (ps_set (i := 2) sc_law.nd rfl (.inl rfl) (pe_call (ok_l_bag T) (hr.mono (by decide)) (by rfl) T.l_bag_g T.l_bag_f.kp T.l_bag_b .nil pass0 (pa_cons (pv 0) (pa_cons (pv 1) pa_nil))))
      (pss_one (ps_for PassesOwn.never rfl (pi_range1 (by rfl) T.n_range (pa_cons pe_int pa_nil)) (pg_name (i := 3) sc_law.nd rfl (.inl rfl)) (pss_cons (ps_par (i := 4) (j := 5) (by rfl) sc_law.nd rfl rfl (by decide) rfl rfl (pa_cons (pe_call (ok_l_drawn T) (hr.mono (by decide)) (by rfl) T.l_drawn_g T.l_drawn_f.kp T.l_drawn_b .nil pass0 (pa_cons (pv 2) (pa_cons (pe_ix ix_seq (pe_lst (pa_cons pe_int (pa_cons pe_int pa_nil))) (pe_op op_modN (pv 3) pe_int) (fun _ _ => rfl)) pa_nil))) (pa_cons (pe_call (ok_l_drawn T) (hr.mono (by decide)) (by rfl) T.l_drawn_g T.l_drawn_f.kp T.l_drawn_b .nil pass0 (pa_cons (pv 2) (pa_cons pe_int pa_nil))) pa_nil)) (by rfl))
      (pss_cons (ps_if (pt_cmpR (op_eqU hu) (pe_op op_modN (pv 3) pe_int) pe_int (nomark _)) (pss_cons (ps_set (i := 6) sc_law.nd rfl (.inl rfl) (pe_call (ok_l_take T) (hr.mono (by decide)) (by rfl) T.l_take_g T.l_take_f.kp T.l_take_b .nil pass0 (pa_cons (pv 2) (pa_cons (pe_op op_addU (pe_callB c_lenU (by rfl) T.n_len (by decide +kernel) (pa_cons (pv 4) pa_nil)) pe_int) pa_nil))))
      (pss_one (ps_set (i := 5) sc_law.nd rfl (.inl rfl) (pe_op op_addU (pe_op op_addU (pe_slice sl_U (pv 4) po_none (po_some (pv 6))) (pv 5)) (pe_slice sl_U (pv 4) (po_some (pe_op op_addU (pv 6) (pe_call (ok_l_take T) (hr.mono (by decide)) (by rfl) T.l_take_g T.l_take_f.kp T.l_take_b .nil pass0 (pa_cons (pv 2) (pa_cons pe_int pa_nil))))) po_none))))) pss_nil)
      (pss_cons (ps_par (i := 7) (j := 8) (by rfl) sc_law.nd rfl rfl (by decide) rfl rfl (pa_cons (pe_callTy call_list_of (by rfl) T.n_list (by decide +kernel) (pa_cons (pv 4) pa_nil)) (pa_cons (pe_callTy call_list_of (by rfl) T.n_list (by decide +kernel) (pa_cons (pv 5) pa_nil)) pa_nil)) (by rfl))
      (pss_cons (ps_if (PW.pt (pw_or (pt_not (pt_val (pe_callG (ok_l_is_right T) hG (hr.mono (by decide)) (by rfl) T.l_is_right_g T.l_is_right_f.kp T.l_is_right_b .nil pass0 (pa_cons (pv 4) (pa_cons (pv 5) pa_nil))))) (pw_or (pt_cmpR (op_neU hu) (pv 4) (pv 7) (nomark _)) (pw_or1 (pt_cmpR (op_neU hu) (pv 5) (pv 8) (nomark _)))))) (pss_one (ps_ret pe_bl)) pss_nil)
      (pss_cons (ps_par (i := 9) (j := 10) (by rfl) sc_law.nd rfl rfl (by decide) rfl rfl (pa_cons (pe_join pe_str (pe_lc (own := [("_law_part", 14)]) (g := (gName 14)) (tt := tYes) rfl sc_law.nd (pi_seqU (pv 4)) (blkOk_by (own := [("_law_part", 14)]) (N := ["_law_script", "_law_at", "_law_bag_here", "_law_turn", "_law_old", "_law_new", "_law_spot", "_law_kept", "_law_ahead", "_law_one", "_law_other", "_law_start", "_law_stop", "_law_some", "_law_part"]) (sc := defScope s_law) (by decide +kernel)) (fun _ _ _ _ _ => (pg_name (i := 14) sc_law.nd rfl (.inl rfl))) (fun _ _ _ _ _ => pts_nil) (fun _ _ _ _ _ => (pe_callTy call_str_int (by rfl) T.n_str (by decide +kernel) (pa_cons (pv 14) pa_nil))))) (pa_cons (pe_join pe_str (pe_lc (own := [("_law_part", 14)]) (g := (gName 14)) (tt := tYes) rfl sc_law.nd (pi_seqU (pv 5)) (blkOk_by (own := [("_law_part", 14)]) (N := ["_law_script", "_law_at", "_law_bag_here", "_law_turn", "_law_old", "_law_new", "_law_spot", "_law_kept", "_law_ahead", "_law_one", "_law_other", "_law_start", "_law_stop", "_law_some", "_law_part"]) (sc := defScope s_law) (by decide +kernel)) (fun _ _ _ _ _ => (pg_name (i := 14) sc_law.nd rfl (.inl rfl))) (fun _ _ _ _ _ => pts_nil) (fun _ _ _ _ _ => (pe_ix ix_seq pe_str (pv 14) (fun _ _ => rfl))))) pa_nil)) (by rfl))
      (pss_cons (ps_if (PW.pt (pw_or (pt_not (pt_val (pe_callG (ok_l_is_right T) hG (hr.mono (by decide)) (by rfl) T.l_is_right_g T.l_is_right_f.kp T.l_is_right_b .nil pass0 (pa_cons (pv 9) (pa_cons (pv 10) pa_nil))))) (pw_or (pt_not (pt_val (pe_callG (ok_l_is_right T) hG (hr.mono (by decide)) (by rfl) T.l_is_right_g T.l_is_right_f.kp T.l_is_right_b .nil pass0 (pa_cons (pv 5) (pa_cons (pv 4) pa_nil))))) (pw_or1 (pt_not (pt_val (pe_callG (ok_l_is_right T) hG (hr.mono (by decide)) (by rfl) T.l_is_right_g T.l_is_right_f.kp T.l_is_right_b .nil pass0 (pa_cons (pv 4) (pa_cons (pv 4) pa_nil))))))))) (pss_one (ps_ret pe_bl)) pss_nil)
      (pss_cons (ps_asg (pe_call (ok_least_patch T) (hr.mono (by decide)) (by rfl) T.least_patch_g T.least_patch_f.kp T.least_patch_b .nil pass0 (pa_cons (pv 4) (pa_cons (pv 5) pa_nil))) (pg_tup (by rfl) (pgs_cons (pg_name (i := 11) sc_law.nd rfl (.inl rfl)) (pgs_cons (pg_name (i := 12) sc_law.nd rfl (.inl rfl)) (pgs_cons (pg_name (i := 13) sc_law.nd rfl (.inl rfl)) pgs_nil)))))
      (pss_cons (ps_if (PW.pt (pw_and (pt_cmpR op_lt (pe_callB c_lenU (by rfl) T.n_len (by decide +kernel) (pa_cons (pv 4) pa_nil)) pe_int (nomark _)) (pw_and1 (pt_cmpR (op_neU hu) (pe_op op_addU (pe_op op_sub (pv 12) (pv 11)) (pe_callB c_lenU (by rfl) T.n_len (by decide +kernel) (pa_cons (pv 13) pa_nil))) (pe_callB (cr_min rfl) (by rfl) T.n_min (by decide +kernel) (pa_cons (pe_call (ok_l_all_sizes T) (hr.mono (by decide)) (by rfl) T.l_all_sizes_g T.l_all_sizes_f.kp T.l_all_sizes_b .nil pass0 (pa_cons (pv 4) (pa_cons (pv 5) pa_nil))) pa_nil)) (nomark _))))) (pss_one (ps_ret pe_bl)) pss_nil)
      (pss_cons (ps_expr (pe_bm PySem.F.plainAttrs_list PySem.F.slot_list_append PySem.F.type_list_append mt_append (pv 13) (pa_cons pe_int pa_nil)))
      (pss_one (ps_if (PW.pt (pw_or (pt_cmpR (op_neU hu) (pv 5) (pv 8) (nomark _)) (pw_or (pt_cmpR (op_neU hu) (pe_call (ok_least_patch T) (hr.mono (by decide)) (by rfl) T.least_patch_g T.least_patch_f.kp T.least_patch_b .nil pass0 (pa_cons pe_str (pa_cons pe_str pa_nil))) (pe_tup (pa_cons pe_int (pa_cons pe_int (pa_cons pe_str pa_nil)))) (nomark _)) (pw_or1 (pt_cmpR (op_neU hu) (pe_call (ok_least_patch T) (hr.mono (by decide)) (by rfl) T.least_patch_g T.least_patch_f.kp T.least_patch_b .nil pass0 (pa_cons (pe_lst pa_nil) (pa_cons (pe_lst pa_nil) pa_nil))) (pe_tup (pa_cons pe_int (pa_cons pe_int (pa_cons (pe_lst pa_nil) pa_nil)))) (nomark _)))))) (pss_one (ps_ret pe_bl)) pss_nil)))))))))))))))
      (pss_one (ps_ret pe_bl)))


end
section
variable {P : Program} {w : World} {K : PySem.W.Frag} {mg : Str → Option Value} {base : Heap}
def d_common_beginning : He.DefD := ⟨("common_beginning", none), "common_beginning", "common_beginning", defArgs s_common_beginning, defBody s_common_beginning, defScope s_common_beginning, [], []⟩
def d_least_patch : He.DefD := ⟨("least_patch", none), "least_patch", "least_patch", defArgs s_least_patch, defBody s_least_patch, defScope s_least_patch, [], []⟩
def d_l_bag : He.DefD := ⟨("_law_bag", none), "_law_bag", "_law_bag", defArgs s_l_bag, defBody s_l_bag, defScope s_l_bag, [], []⟩
def d_l_take : He.DefD := ⟨("_law_take", none), "_law_take", "_law_take", defArgs s_l_take, defBody s_l_take, defScope s_l_take, [], []⟩
def d_l_of : He.DefD := ⟨("_law_of", none), "_law_of", "_law_of", defArgs s_l_of, defBody s_l_of, defScope s_l_of, [], []⟩
def d_l_patch : He.DefD := ⟨("_law_patch", none), "_law_patch", "_law_patch", defArgs s_l_patch, defBody s_l_patch, defScope s_l_patch, [], []⟩
def d_l_drawn : He.DefD := ⟨("_law_drawn", none), "_law_drawn", "_law_drawn", defArgs s_l_drawn, defBody s_l_drawn, defScope s_l_drawn, [], []⟩
def d_l_all_sizes : He.DefD := ⟨("_law_all_sizes", none), "_law_all_sizes", "_law_all_sizes", defArgs s_l_all_sizes, defBody s_l_all_sizes, defScope s_l_all_sizes, [], []⟩
def d_l_is_right : He.DefD := ⟨("_law_is_right", none), "_law_is_right", "_law_is_right", defArgs s_l_is_right, defBody s_l_is_right, defScope s_l_is_right, [], []⟩
def d_law : He.DefD := ⟨("law", none), "law", "law", defArgs s_law, defBody s_law, defScope s_law, [], []⟩
def hdefs : List He.DefD := [d_common_beginning, d_least_patch, d_l_bag, d_l_take, d_l_of, d_l_patch, d_l_drawn, d_l_all_sizes, d_l_is_right, d_law]
def hfacts : List He.Fa := [.glo "common_beginning", .glo "least_patch", .glo "_law_bag", .glo "_law_take", .glo "_law_of", .glo "_law_patch", .glo "_law_drawn", .glo "_law_all_sizes", .glo "_law_is_right", .glo "law", .free "abs", .free "isinstance", .free "len", .free "list", .free "max", .free "min", .free "range", .free "repr", .free "str", .free "tuple", .free "zip"]
abbrev hrow : PySem.W.OpenRow := PySem.W.OpenLaw.row PySem.Challenge.rw_piecetexts_k52_whole_least_patches
abbrev hhook : PySem.W.Hook := He.hookD 4 hfacts hdefs
def hob (s : PySem.W.SharedT) : He.AlD := He.obsDG 4 hfacts hdefs (HandSHeadRun.getT s)
theorem hob_eq (s : PySem.W.SharedT) : hob s = hhook.obs s.abs := He.obsDG_eq (HandSHeadRun.getT_eq s)
abbrev hloose : List Str := ["common_beginning", "least_patch", "_law_bag", "_law_take", "_law_of", "_law_patch", "_law_drawn", "_law_all_sizes", "_law_is_right"]
theorem hrun (w : World) : HandSHeadRun.RunEq hrow (PySem.W.view hrow.prog [11]) hhook hob 400 hloose w := by
  intro os
  kernel_rfl
theorem htxt {K : PySem.W.Frag} {h : Heap} {mg : Str → Option Value} {f : Addr} (X : K.In h) (G : h.Ns mainGlobals mg) (hfa : mg ("law" : Str) = some (.ref f)) (c : He.SaysD hfacts hdefs K) :
    ∃ T : Txt K mg, T.law_a = f ∧ ∀ (s : Shared) (v : Value), BindsTo s T.law_d ⟨[v], []⟩ [("_law_script", v)] := by
  obtain ⟨fd_common_beginning, F_common_beginning⟩ := c.def_ 0 (d := d_common_beginning) rfl
  obtain ⟨fd_least_patch, F_least_patch⟩ := c.def_ 1 (d := d_least_patch) rfl
  obtain ⟨fd_l_bag, F_l_bag⟩ := c.def_ 2 (d := d_l_bag) rfl
  obtain ⟨fd_l_take, F_l_take⟩ := c.def_ 3 (d := d_l_take) rfl
  obtain ⟨fd_l_of, F_l_of⟩ := c.def_ 4 (d := d_l_of) rfl
  obtain ⟨fd_l_patch, F_l_patch⟩ := c.def_ 5 (d := d_l_patch) rfl
  obtain ⟨fd_l_drawn, F_l_drawn⟩ := c.def_ 6 (d := d_l_drawn) rfl
  obtain ⟨fd_l_all_sizes, F_l_all_sizes⟩ := c.def_ 7 (d := d_l_all_sizes) rfl
  obtain ⟨fd_l_is_right, F_l_is_right⟩ := c.def_ 8 (d := d_l_is_right) rfl
  obtain ⟨fd_law, F_law⟩ := c.def_ 9 (d := d_law) rfl
  have g_law := He.glo_ok X G (c.fact 9 (f := .glo "law") rfl)
  have e := hfa.symm.trans g_law
  cases e
  refine ⟨{
    common_beginning_a := _, common_beginning_d := fd_common_beginning, common_beginning_f := F_common_beginning
    common_beginning_g := He.glo_ok X G (c.fact 0 (f := .glo "common_beginning") rfl)
    common_beginning_b := FunD.bindsN (ps := ["one", "other"]) F_common_beginning fun _ _ _ _ _ _ us hl => match us, hl with | [_, _], _ => rfl
    least_patch_a := _, least_patch_d := fd_least_patch, least_patch_f := F_least_patch
    least_patch_g := He.glo_ok X G (c.fact 1 (f := .glo "least_patch") rfl)
    least_patch_b := FunD.bindsN (ps := ["old", "new"]) F_least_patch fun _ _ _ _ _ _ us hl => match us, hl with | [_, _], _ => rfl
    l_bag_a := _, l_bag_d := fd_l_bag, l_bag_f := F_l_bag
    l_bag_g := He.glo_ok X G (c.fact 2 (f := .glo "_law_bag") rfl)
    l_bag_b := FunD.bindsN (ps := ["_law_script", "_law_at"]) F_l_bag fun _ _ _ _ _ _ us hl => match us, hl with | [_, _], _ => rfl
    l_take_a := _, l_take_d := fd_l_take, l_take_f := F_l_take
    l_take_g := He.glo_ok X G (c.fact 3 (f := .glo "_law_take") rfl)
    l_take_b := FunD.bindsN (ps := ["_law_bag_here", "_law_many"]) F_l_take fun _ _ _ _ _ _ us hl => match us, hl with | [_, _], _ => rfl
    l_of_a := _, l_of_d := fd_l_of, l_of_f := F_l_of
    l_of_g := He.glo_ok X G (c.fact 4 (f := .glo "_law_of") rfl)
    l_of_b := FunD.bindsN (ps := ["_law_bag_here", "_law_some"]) F_l_of fun _ _ _ _ _ _ us hl => match us, hl with | [_, _], _ => rfl
    l_patch_a := _, l_patch_d := fd_l_patch, l_patch_f := F_l_patch
    l_patch_g := He.glo_ok X G (c.fact 5 (f := .glo "_law_patch") rfl)
    l_patch_b := FunD.bindsN (ps := ["_law_old", "_law_new"]) F_l_patch fun _ _ _ _ _ _ us hl => match us, hl with | [_, _], _ => rfl
    l_drawn_a := _, l_drawn_d := fd_l_drawn, l_drawn_f := F_l_drawn
    l_drawn_g := He.glo_ok X G (c.fact 6 (f := .glo "_law_drawn") rfl)
    l_drawn_b := FunD.bindsN (ps := ["_law_bag_here", "_law_most"]) F_l_drawn fun _ _ _ _ _ _ us hl => match us, hl with | [_, _], _ => rfl
    l_all_sizes_a := _, l_all_sizes_d := fd_l_all_sizes, l_all_sizes_f := F_l_all_sizes
    l_all_sizes_g := He.glo_ok X G (c.fact 7 (f := .glo "_law_all_sizes") rfl)
    l_all_sizes_b := FunD.bindsN (ps := ["_law_old", "_law_new"]) F_l_all_sizes fun _ _ _ _ _ _ us hl => match us, hl with | [_, _], _ => rfl
    l_is_right_a := _, l_is_right_d := fd_l_is_right, l_is_right_f := F_l_is_right
    l_is_right_g := He.glo_ok X G (c.fact 8 (f := .glo "_law_is_right") rfl)
    l_is_right_b := FunD.bindsN (ps := ["_law_old", "_law_new"]) F_l_is_right fun _ _ _ _ _ _ us hl => match us, hl with | [_, _], _ => rfl
    law_a := _, law_d := fd_law, law_f := F_law
    law_g := He.glo_ok X G (c.fact 9 (f := .glo "law") rfl)
    law_b := FunD.bindsN (ps := ["_law_script"]) F_law fun _ _ _ _ _ _ us hl => match us, hl with | [_], _ => rfl
    n_abs := He.free_ok X G (c.fact 10 (f := .free "abs") rfl)
    n_isinstance := He.free_ok X G (c.fact 11 (f := .free "isinstance") rfl)
    n_len := He.free_ok X G (c.fact 12 (f := .free "len") rfl)
    n_list := He.free_ok X G (c.fact 13 (f := .free "list") rfl)
    n_max := He.free_ok X G (c.fact 14 (f := .free "max") rfl)
    n_min := He.free_ok X G (c.fact 15 (f := .free "min") rfl)
    n_range := He.free_ok X G (c.fact 16 (f := .free "range") rfl)
    n_repr := He.free_ok X G (c.fact 17 (f := .free "repr") rfl)
    n_str := He.free_ok X G (c.fact 18 (f := .free "str") rfl)
    n_tuple := He.free_ok X G (c.fact 19 (f := .free "tuple") rfl)
    n_zip := He.free_ok X G (c.fact 20 (f := .free "zip") rfl)
    }, rfl, fun s v => FunD.bindsA (ps := ["_law_script"]) F_law (fun _ _ _ _ _ _ us hl => match us, hl with | [_], _ => rfl) s [v] rfl⟩
end
end Px
open PySem PySem.W PySem.Calls PyProof.Rows
set_option maxHeartbeats 0 in
theorem PySem.Challenge.cw_piecetexts_k52_whole_least_patches_holds : PySem.Challenge.rw_piecetexts_k52_whole_least_patches.Holds := by
  w_on; o_law
  refine HandSHeadRun.head_any (r := OpenLaw.row PySem.Challenge.rw_piecetexts_k52_whole_least_patches) (q := view (OpenLaw.row PySem.Challenge.rw_piecetexts_k52_whole_least_patches).prog [11]) (H := Px.hhook) (ob := Px.hob) (M := 400) (loose := Px.hloose) (d := HandSHeadRun.topDef (OpenLaw.row PySem.Challenge.rw_piecetexts_k52_whole_least_patches).prog 11) (kwd := []) Px.hob_eq
    (by kernel_rfl) (fun s => by kernel_rfl) Px.hrun (by kernel_rfl) (by kernel_rfl) (by kernel_rfl) (by rfl) (by first | assumption | decide +kernel) (by decide +kernel) ⟨rfl, rfl, rfl, rfl, rfl, by decide +kernel⟩ ?hw ?hc
  case hw => w_witness2
  case hc =>
    refine Px.walk_G (l := PySem.Challenge.rw_piecetexts_k52_whole_least_patches) (n := 63) (k := 4) (x := "_law_script") rfl (by decide) (by kernel_rfl) ⟨rfl, by decide, by decide⟩ ?F
    intro w mg fa h Y G hmg0
    obtain ⟨K, KX, c⟩ := Y
    have hmg : mg ("law" : PySem.Str) = some (.ref fa) := by
      have e : (HandSHeadRun.topDef (OpenLaw.row PySem.Challenge.rw_piecetexts_k52_whole_least_patches).prog 11).name = ("law" : PySem.Str) := by kernel_rfl
      rw [← e]
      exact hmg0
    obtain ⟨T, rfl, hb⟩ := Px.htxt KX G hmg c
    exact ⟨K, T.law_d, Px.sp_law T, KX, hb, fun H a ns hl _ hS => ⟨a, ns, rfl, hS, hl, fun _ => rfl⟩, fun base _ _ => Px.ok_law T⟩


