import PyProof.Rows.All
import Wide.All
import OpenK.AllK
import Wide.FinOn
import HandS.ForMost
import HandS.IsInst
import HandS.Flow
import HandS.Style
import HandS.Wide
import HandS.Walk
import HandS.ClsMeth
import HandS.Property
import HandS.MakeKwOnly
import HandS.StrMore
import HandS.DictComp
import HandS.SetKeys
import HandS.TupAny
import HandS.Steps
import HandS.Defaults
import KE.GoesNew
import KE.GoesEnum
import KE.GoesMore
import HandS.RaiseMore
import KE.KRevSl
import PyProof.ReprRoads
import PyProof.ReprText
import HandS.HeadEnd
import KE.KxField
import HandS.FStr
import HandS.IntHex
import HandS.SetBool
import HandS.HeadHook1
import HandS.HeadHook2
import HandS.Head0
import HandS.Head1
import HandS.Head2
import PySem.Challenge.RW_piecetexts_k10_rows_of_bit_codes
set_option Elab.async false
set_option linter.all false
set_option maxRecDepth 100000
set_option maxHeartbeats 1000000
namespace Px
open PySem PySem.Spec PyProof.Rows L2
abbrev S := L2.St

/-! ### heaps that grow -/
def SameB (b : Addr) (H H' : Hp) : Prop := ∀ a o, a ≠ b → H a = some o → H' a = some o
theorem same_new {H : Hp} {p : Addr} {o : HO} (h : H p = none) : Same H (upd H p o) := fun a u e => (upd_ne (ne_of_none e h)).trans e
theorem same_mut {H H' : Hp} {p : Addr} {o : HO} (e : Same H H') (h : H p = none) : Same H (upd H' p o) := fun a u ha => (upd_ne (ne_of_none ha h)).trans (e a u ha)
theorem same_mutB {H H' : Hp} {p : Addr} (h : H p = none) {H1 : Hp} (e : Same H H1) (e2 : SameB p H1 H') : Same H H' := fun a u ha => e2 a u (ne_of_none ha h) (e a u ha)
theorem sameB_upd {H : Hp} {b : Addr} {o : HO} : SameB b H (upd H b o) := fun a u n e => (upd_ne n).trans e
theorem SameB.refl (b : Addr) (H : Hp) : SameB b H H := fun _ _ _ h => h
theorem SameB.trans {b : Addr} {H H1 H2 : Hp} (x : SameB b H H1) (y : SameB b H1 H2) : SameB b H H2 := fun a o n h => y a o n (x a o n h)
theorem toB {b : Addr} {H H' : Hp} (e : Same H H') : SameB b H H' := fun a o _ h => e a o h
theorem SameB.free {b : Addr} {H H' : Hp} (e : SameB b H H') {l : Addr} (n : l ≠ b) (h : H' l = none) : H l = none := by
  cases q : H l with
  | none => rfl
  | some o => rw [e l o n q] at h; cases h
theorem gs {H H' : Hp} {a : Addr} {o : HO} (e : Same H H') (h : H a = some o) : H' a = some o := e a o h
theorem gb {b : Addr} {H H' : Hp} {a : Addr} {o : HO} (e : SameB b H H') (n : a ≠ b) (h : H a = some o) : H' a = some o := e a o n h
theorem gu {b : Addr} {H : Hp} {a : Addr} {o u : HO} (n : a ≠ b) (h : H a = some o) : upd H b u a = some o := (upd_ne n).trans h
section
variable {K : PySem.W.Frag} {H H' : Hp} {a b : Addr} {xs : List V}
theorem ql (h : H a = some (.lst xs)) : SqL K H a xs := .inl (.inl h)
theorem qt (h : H a = some (.tup xs)) : SqT K H a xs := .inl (.inl h)
theorem gsl (e : Same H H') (h : SqL K H a xs) : SqL K H' a xs := e.seq h
theorem gst (e : Same H H') (h : SqT K H a xs) : SqT K H' a xs := by
  rcases h with (h | ⟨o, h⟩) | h
  · exact .inl (.inl (e _ _ h))
  · exact .inl (.inr ⟨o, e _ _ h⟩)
  · exact .inr h
theorem gbl (e : SameB b H H') (n : a ≠ b) (h : SqL K H a xs) : SqL K H' a xs := by
  rcases h with (h | ⟨o, h⟩) | h
  · exact .inl (.inl (e _ _ n h))
  · exact .inl (.inr ⟨o, e _ _ n h⟩)
  · exact .inr h
theorem gbt (e : SameB b H H') (n : a ≠ b) (h : SqT K H a xs) : SqT K H' a xs := by
  rcases h with (h | ⟨o, h⟩) | h
  · exact .inl (.inl (e _ _ n h))
  · exact .inl (.inr ⟨o, e _ _ n h⟩)
  · exact .inr h
mutual
theorem dps (e : Same H H') : ∀ (d : PyData) (v : V), Dp K H v d → Dp K H' v d
  | .none, _, h => by cases h; exact .non
  | .bool _, _, h => by cases h; exact .bl _
  | .int _, _, h => by cases h; exact .int _
  | .str _, _, h => by cases h; exact .str _
  | .list ds, _, h => by
    cases h with
    | lst hs ha => exact .lst (gsl e hs) (dpsAll e ds _ ha)
  | .tuple ds, _, h => by
    cases h with
    | tup hs ha => exact .tup (gst e hs) (dpsAll e ds _ ha)
  | .dict _, _, h => by cases h
theorem dpsAll (e : Same H H') : ∀ (ds : List PyData) (vs : List V), DpAll K H vs ds → DpAll K H' vs ds
  | [], _, h => by cases h; exact .nil
  | d :: ds, _, h => by
    cases h with
    | cons h1 h2 => exact .cons (dps e d _ h1) (dpsAll e ds _ h2)
end
end

/-! ### one step of a reading -/
section
variable {K : PySem.W.Frag} {σ : S} {H : Hp} {Q : VK} {D : Ends} {t u : TS} {ta tb te tc : TE} {x y v : V} {tr : TA} {i : Nat} {g : TG} {c c2 : TT}
theorem r_seq (h : t { D with nx := u D } σ H) : tSeq t u D σ H := h
theorem r_next (h : D.nx σ H) : tNext D σ H := h
theorem r_ret (h : te σ H D.rt) : tRet te D σ H := h
theorem r_retN (h : D.rt .non H) : tRetN D σ H := h
theorem r_asg (h : te σ H fun x H1 => g x σ H1 D.nx) : tAsg te g D σ H := h
theorem r_drop (h : te σ H fun _ H1 => D.nx σ H1) : tDrop te D σ H := h
theorem r_ifs (h : c σ H fun b H1 => if b = true then t D σ H1 else u D σ H1) : tIfS c t u D σ H := h
theorem r_brk (h : D.bk σ H) : tBreak D σ H := h
theorem r_cont (h : D.ct σ H) : tCont D σ H := h
theorem r_gname {P : S → Hp → Prop} (h : P (σ.set i (some v)) H) : gName i v σ H P := h
theorem r_gtup {n : Nat} {gs : TGs} {a : Addr} {xs : List V} {P : S → Hp → Prop} (h1 : SqT K H a xs) (h2 : xs.length = n) (h : gs xs σ H P) : gTup K n gs (.ref a) σ H P := ⟨a, xs, rfl, h1, h2, h⟩
theorem r_gcons {gs : TGs} {xs : List V} {P : S → Hp → Prop} (h : g x σ H fun σ' H' => gs xs σ' H' P) : gCons g gs (x :: xs) σ H P := ⟨x, xs, rfl, h⟩
theorem r_gnil {P : S → Hp → Prop} (h : P σ H) : gNil [] σ H P := ⟨rfl, h⟩
theorem r_gsub {ts : TSet} {P : S → Hp → Prop} (h : ta σ H fun o H1 => tb σ H1 fun i H2 => ts o i v H2 fun H3 => P σ H3) : gSub ta tb ts v σ H P := h
theorem r_setL {p : Addr} {xs : List V} {k : Int} {j : Nat} {P : Hp → Prop} (h1 : H p = some (.lst xs)) (h2 : ixN xs.length k = some j) (h : P (upd H p (.lst (xs.set j v)))) : rSetL (.ref p) (.int k) v H P := ⟨p, xs, k, j, rfl, rfl, h1, h2, h⟩
theorem r_aug {ti : TIp} (hx : σ[i]? = some (some x)) (h : te σ H fun y H1 => ti x y H1 fun z H2 => D.nx (σ.set i (some z)) H2) : tAug i te ti D σ H := ⟨x, hx, h⟩
theorem r_par {j : Nat} (h : tr σ H fun vs H1 => ∃ v w, vs = [v, w] ∧ D.nx ((σ.set i (some v)).set j (some w)) H1) : tPar i j tr D σ H := h
theorem r_two {P : V → V → Prop} (h : P x y) : ∃ v w, [x, y] = [v, w] ∧ P v w := ⟨x, y, rfl, h⟩
theorem r_var (h1 : σ[i]? = some (some v)) (h : Q v H) : tVar i σ H Q := ⟨v, h1, h⟩
theorem r_c (h : Q v H) : tC v σ H Q := h
theorem r_op {r : R2} (h : ta σ H fun x H1 => tb σ H1 fun y H2 => r x y H2 Q) : tOp r ta tb σ H Q := h
theorem r_un {r : V → Hp → VK → Prop} (h : ta σ H fun x H1 => r x H1 Q) : tUn r ta σ H Q := h
theorem r_if (h : c σ H fun b H1 => if b = true then ta σ H1 Q else tb σ H1 Q) : tIf c ta tb σ H Q := h
theorem r_test {P : Bool → Hp → Prop} (h : te σ H fun x H' => ∃ k, x = .bl k ∧ P k H') : tTest te σ H P := h
theorem r_b {P : Bool → Hp → Prop} (h : te σ H fun x H' => ∃ k, x = .bl k ∧ P k H') : tB te σ H P := h
theorem r_bl {b : Bool} {P : Bool → Prop} (h : P b) : ∃ k, V.bl b = V.bl k ∧ P k := ⟨b, rfl, h⟩
theorem r_and {P : Bool → Hp → Prop} (h : c σ H fun b H1 => if b = true then c2 σ H1 P else P false H1) : tAnd c c2 σ H P := h
theorem r_or {P : Bool → Hp → Prop} (h : c σ H fun b H1 => if b = true then P true H1 else c2 σ H1 P) : tOr c c2 σ H P := h
theorem r_not {P : Bool → Hp → Prop} (h : c σ H fun b H1 => P (!b) H1) : tNot c σ H P := h
theorem r_andV (h : ta σ H fun x H1 => ∃ c, x = .bl c ∧ if c = true then tb σ H1 Q else Q (.bl false) H1) : tAndV ta tb σ H Q := h
theorem r_orV (h : ta σ H fun x H1 => ∃ c, x = .bl c ∧ if c = true then Q (.bl true) H1 else tb σ H1 Q) : tOrV ta tb σ H Q := h
theorem r_notV (h : ta σ H fun x H1 => ∃ c, x = .bl c ∧ Q (.bl (!c)) H1) : tNotV ta σ H Q := h
theorem r_chain {r r' : R2} (h : ta σ H fun x H1 => tb σ H1 fun y H2 => r x y H2 fun z H3 => ∃ k, z = .bl k ∧ (if k = true then tc σ H3 fun w' H4 => r' y w' H4 Q else Q (.bl false) H3)) : tChain r r' ta tb tc σ H Q := h
theorem r_nil {P : List V → Hp → Prop} (h : P [] H) : tNil σ H P := h
theorem r_cons {P : List V → Hp → Prop} (h : ta σ H fun x H1 => tr σ H1 fun xs H2 => P (x :: xs) H2) : tCons ta tr σ H P := h

theorem same_of {H H2 : Hp} {p : Addr} {o : HO} (h : upd H p o = H2) (n : H p = none) : Same H H2 := h ▸ same_new n
theorem at_of {H H2 : Hp} {p : Addr} {o : HO} (h : upd H p o = H2) : H2 p = some o := h ▸ upd_same
theorem sameB_of {H H2 : Hp} {p : Addr} {o : HO} (h : upd H p o = H2) : SameB p H H2 := h ▸ sameB_upd
theorem r_tup (h : tr σ H fun xs H1 => xs.length ≤ sizeLine ∧ ∀ p, H1 p = none → Q (.ref p) (upd H1 p (.tup xs))) : tTup tr σ H Q := h
theorem r_lst (h : tr σ H fun xs H1 => xs.length ≤ sizeLine ∧ ∀ p, H1 p = none → Q (.ref p) (upd H1 p (.lst xs))) : tLst tr σ H Q := h
theorem r_call {sp : Sp} {dvs : List V} {E : XK} (h : tr σ H fun vs H1 => sp (vs ++ dvs) H1 Q E) : tCall sp dvs E tr σ H Q := h
theorem r_cb {r : List V → Hp → VK → Prop} (h : tr σ H fun vs H1 => r vs H1 Q) : tCB r tr σ H Q := h
theorem r_I0 {g : Int → Int → V} {i j : Int} (h : Q (g i j) H) : rI0 g (.int i) (.int j) H Q := ⟨i, j, rfl, rfl, h⟩
theorem r_I {C : Int → Int → Prop} {g : Int → Int → V} {i j : Int} (hc : C i j) (h : Q (g i j) H) : rI C g (.int i) (.int j) H Q := ⟨i, j, rfl, rfl, hc, h⟩
theorem r_eqI {i j : Int} (h : Q (.bl (decide (i = j))) H) : rEq (.int i) (.int j) H Q := ⟨rfl, by
  have e : decide (V.int i = V.int j) = decide (i = j) := by simp
  rw [e]; exact h⟩
theorem r_neI {i j : Int} (h : Q (.bl (!decide (i = j))) H) : rNe (.int i) (.int j) H Q := ⟨rfl, by
  have e : decide (V.int i = V.int j) = decide (i = j) := by simp
  rw [e]; exact h⟩
theorem r_eqS {i j : Str} (h : Q (.bl (decide (i = j))) H) : rEq (.str i) (.str j) H Q := ⟨rfl, by
  have e : decide (V.str i = V.str j) = decide (i = j) := by simp
  rw [e]; exact h⟩
theorem r_neS {i j : Str} (h : Q (.bl (!decide (i = j))) H) : rNe (.str i) (.str j) H Q := ⟨rfl, by
  have e : decide (V.str i = V.str j) = decide (i = j) := by simp
  rw [e]; exact h⟩
theorem r_eqB {i j : Bool} (h : Q (.bl (decide (i = j))) H) : rEq (.bl i) (.bl j) H Q := ⟨rfl, by
  have e : decide (V.bl i = V.bl j) = decide (i = j) := by simp
  rw [e]; exact h⟩
theorem r_ixL {p : Addr} {xs : List V} {i : Int} (h1 : SqL K H p xs) (h2 : atI xs i = some v) (h : Q v H) : rIx K (.ref p) (.int i) H Q := .inl ⟨p, xs, i, v, rfl, rfl, h1, h2, h⟩
theorem r_ixT {p : Addr} {xs : List V} {i : Int} (h1 : SqT K H p xs) (h2 : atI xs i = some v) (h : Q v H) : rIx K (.ref p) (.int i) H Q := .inr (.inl ⟨p, xs, i, v, rfl, rfl, h1, h2, h⟩)
theorem r_ixS {z : Str} {i : Int} {c : Nat} (h1 : z.length ≤ sizeLine) (h2 : atI z.cps.toList i = some c) (h : Q (.str ⟨#[c]⟩) H) : rIx K (.str z) (.int i) H Q := .inr (.inr ⟨z, i, c, rfl, rfl, h1, h2, h⟩)
theorem r_iteD {p A B : Prop} [Decidable p] (h1 : p → A) (h2 : ¬p → B) : if decide p = true then A else B := by
  by_cases q : p
  · rw [if_pos (decide_eq_true q)]; exact h1 q
  · rw [if_neg (by simpa using q)]; exact h2 q
theorem r_iteND {p A B : Prop} [Decidable p] (h1 : ¬p → A) (h2 : p → B) : if (!decide p) = true then A else B := by
  by_cases q : p
  · rw [if_neg (by simpa using q)]; exact h2 q
  · rw [if_pos (by simpa using q)]; exact h1 q
theorem r_iteB {b : Bool} {A B : Prop} (h1 : b = true → A) (h2 : b = false → B) : if b = true then A else B := by
  cases b
  · rw [if_neg Bool.false_ne_true]; exact h2 rfl
  · rw [if_pos rfl]; exact h1 rfl
theorem r_iteT {A B : Prop} (h : A) : if true = true then A else B := by rw [if_pos rfl]; exact h
theorem r_iteF {A B : Prop} (h : B) : if false = true then A else B := by rw [if_neg Bool.false_ne_true]; exact h
end
end Px

namespace Px
open PySem PySem.Spec PyProof.Rows L2

/-! ### operators by any kind of value -/
abbrev rAddI : R2 := rI0 fun i j => .int (i + j)
abbrev rSubI : R2 := rI0 fun i j => .int (i - j)
abbrev rLtI : R2 := rI0 fun i j => .bl (decide (i < j))
abbrev rLeI : R2 := rI0 fun i j => .bl (decide (i ≤ j))
abbrev rGtI : R2 := rI0 fun i j => .bl (decide (j < i))
abbrev rGeI : R2 := rI0 fun i j => .bl (decide (j ≤ i))
abbrev rFdivI : R2 := rI CDivN fun i j => .int (i.fdiv j)
abbrev rModI : R2 := rI (fun _ j => j ≠ 0) fun i j => .int (i.fmod j)
abbrev rPowI : R2 := rI CPow fun i j => .int (i ^ j.toNat)
abbrev rMulI : R2 := rI CMul fun i j => .int (i * j)
abbrev rNegI : V → Hp → VK → Prop := rU fun i => .int (-i)
def rAddS : R2 := fun x y H Q => ∃ i j, x = .str i ∧ y = .str j ∧ i.length + j.length ≤ sizeLine ∧ Q (.str (i ++ j)) H
def rAddU (K : PySem.W.Frag) : R2 := fun x y H Q => rAddI x y H Q ∨ rAddS x y H Q ∨ rCat x y H Q ∨ rCatA K x y H Q
def rMulU (K : PySem.W.Frag) : R2 := fun x y H Q => rMulI x y H Q ∨ rRep x y H Q
def rEqU (K : PySem.W.Frag) : R2 := fun x y H Q => rEq x y H Q ∨ rEqD K x y H Q
def rNeU (K : PySem.W.Frag) : R2 := fun x y H Q => rNe x y H Q ∨ rNeD K x y H Q
def rIsNN : R2 := fun x y H Q => y = .non ∧ Q (.bl (decide (x = .non))) H
def rNotNN : R2 := fun x y H Q => y = .non ∧ Q (.bl (!decide (x = .non))) H
def rInU (K : PySem.W.Frag) : R2 := fun x y H Q => rInS x y H Q ∨ rIn K false x y H Q
def rNinU (K : PySem.W.Frag) : R2 := fun x y H Q => rNotInS x y H Q ∨ rIn K true x y H Q
def rSlU (K : PySem.W.Frag) : V → Option Int → Option Int → Hp → VK → Prop := fun x lo hi H Q => rSlL K x lo hi H Q ∨ rSlS x lo hi H Q ∨ rSlA K x lo hi H Q
section
variable {X : Cx}
theorem op_addU : OpR X (binaryOp .Add) (rAddU X.K) := OpR.or op_add (OpR.or op_add_str (OpR.or op_cat op_catA))
theorem op_mulU : OpR X (binaryOp .Mult) (rMulU X.K) := OpR.or op_mul op_rep
theorem op_eqU (hu : X.A.units + 64 < cLine) : OpR X (compareOp .Eq) (rEqU X.K) := OpR.or op_eq (op_eqD hu)
theorem op_neU (hu : X.A.units + 64 < cLine) : OpR X (compareOp .NotEq) (rNeU X.K) := OpR.or op_ne (op_neD hu)
theorem op_inU : OpR X (compareOp .In) (rInU X.K) := OpR.or op_inS op_in_seq
theorem op_ninU : OpR X (compareOp .NotIn) (rNinU X.K) := OpR.or op_notInS op_notIn_seq
theorem sl_U : SlR X (rSlU X.K) := SlR.or sl_list (SlR.or sl_str sl_tupA)
theorem hu64 {k : Nat} {A : Around} (hr : Room k A) : A.units + 64 < cLine := hr.units

/-! ### three comparisons in a chain -/
def tChain3 (r r' r'' : R2) (ta tb tc td : TE) : TE := fun σ H Q => ta σ H fun x H1 => tb σ H1 fun y H2 => r x y H2 fun z H3 => ∃ k, z = .bl k ∧
  (if k = true then tc σ H3 fun y' H4 => r' y y' H4 fun z' H5 => ∃ k', z' = .bl k' ∧ (if k' = true then td σ H5 fun w' H6 => r'' y' w' H6 Q else Q (.bl false) H5) else Q (.bl false) H3)
theorem pt_chain3 {op op' op'' : CmpOp} {r r' r'' : R2} {a b c d : Expr} {ta tb tc td : TE} {pos : Pos} (ho : OpR X (compareOp op) r) (ho' : OpR X (compareOp op') r') (ho'' : OpR X (compareOp op'') r'')
    (ha : PE X a ta) (hb : PE X b tb) (hc : PE X c tc) (hd : PE X d td)
    (hm : lastMarks [op, op', op''] [b, c, d] = false := by with_unfolding_all rfl) : PT X (.Compare a [op, op', op''] [b, c, d] pos) (tTest (tChain3 r r' r'' ta tb tc td)) := by
  refine ⟨fun pins s σ H Q I h => ?_⟩
  refine isTrue_chain (thn (ha.run pins s σ H _ I h) fun v s1 ⟨x, H1, I1, r1, q1⟩ => test_link (thn (hb.run pins s1 σ H1 _ I1 q1) fun u s2 ⟨y, H2, I2, r2, q2⟩ =>
    thn (ho pins s2 σ H2 x y v u _ I2 r1 r2 q2) fun d1 s3 ⟨z, H3, I3, r3, k, e, q3⟩ => ?_)) hm
  subst e
  cases r3
  refine wpAny_truthy_bool ?_
  cases k with
  | false =>
    obtain ⟨k', e', q'⟩ := q3
    cases e'
    exact ite_ff ⟨H3, I3, q'⟩
  | true =>
    refine ite_tt (test_link (thn (hc.run pins s3 σ H3 _ I3 q3) fun u4 s4 ⟨y4, H4, I4, r4, q4⟩ =>
      thn (ho' pins s4 σ H4 y y4 u u4 _ I4 r2 r4 q4) fun d2 s5 ⟨z5, H5, I5, r5, k5, e5, q5⟩ => ?_))
    subst e5
    cases r5
    refine wpAny_truthy_bool ?_
    cases k5 with
    | false =>
      obtain ⟨k', e', q'⟩ := q5
      cases e'
      exact ite_ff ⟨H5, I5, q'⟩
    | true =>
      refine ite_tt (test_last (thn (hd.run pins s5 σ H5 _ I5 q5) fun w6 s6 ⟨z6, H6, I6, r6, q6⟩ => thn (ho'' pins s6 σ H6 y4 z6 u4 w6 _ I6 r4 r6 q6) fun d' s7 ⟨z7, H7, I7, r7, k7, e7, q7⟩ => ?_))
      subst e7
      cases r7
      exact wpAny_truthy_bool ⟨H7, I7, q7⟩

/-! ### walks over a list, a tuple, a text -/
theorem PI.or {tg e : Expr} {w1 w2 : TI} (h1 : PI X tg e w1) (h2 : PI X tg e w2) : PI X tg e (fun σ H R => w1 σ H R ∨ w2 σ H R) := by
  refine ⟨fun pins s σ H R I h => ?_⟩
  rcases h with h | h
  · exact h1.run pins s σ H R I h
  · exact h2.run pins s σ H R I h
def iSeqU (K : PySem.W.Frag) (te : TE) : TI := fun σ H R => iList K te σ H R ∨ iTup K te σ H R ∨ iStr te σ H R
theorem pi_seqU {tg e : Expr} {te : TE} (he : PE X e te) : PI X tg e (iSeqU X.K te) := PI.or (pi_list he) (PI.or (pi_tup he) (pi_str he))
end

/-- an iterator that gives new pairs, by the library's Goes -/
def ItP (n : Nat) (f g : Nat → Option V) : It :=
  ⟨fun i _ => i < n, fun i H v H' => ∃ T x y, v = .ref T ∧ H T = none ∧ H' = upd H T (.tup [x, y]) ∧ f i = some x ∧ g i = some y, fun i _ => i = n⟩
theorem turn_pairs {P : Program} {w : World} {K : PySem.W.Frag} {tg : Expr} {it : Addr} {fp wr : List Addr} {n : Nat} {Y : Nat → Heap → Value → Heap → Prop} {St : Nat → Heap → Prop} {f g : Nat → Option V}
    (W : ∀ A : Around, A.handled = none → GoesN P w A tg it fp wr n Y St)
    (hY : ∀ i h v h', Y i h v h' → ∃ T a b x y, v = .ref T ∧ h.objs.size ≤ T ∧ h'.IsTuple T #[a, b] ∧ f i = some x ∧ g i = some y ∧ RelV x a ∧ RelV y b)
    (hself : ∀ (A : Around) (i : Nat) (s : Shared) (Q : Value → Shared → Prop) (E : Value → Shared → Prop), St i s.heap → Q (.ref it) s → wpAny (model P w) A (pyIter (.ref it)) Q E s)
    (mem : it ∈ fp) (obj : ∀ i h, St i h → ∀ b ∈ fp, ∃ o, h.get? b = some o ∧ ∀ v, o.data ≠ .cell v) : Turn P w K tg (ItP n f g) fp it St where
  mem := mem
  obj := obj
  keep := (W { handled := none } rfl).frame
  item := by
    intro X hP hw hK hc i pins s σ H E I hf st hi
    subst hP hw hK
    have G := W X.A (I.ok.hd hc)
    refine G.goes i s _ E hi st fun v h' tk hy st' hk _ => ?_
    obtain ⟨T, a, b, x, y, rfl, hT, ht, e1, e2, ra, rb⟩ := hY _ _ _ _ hy
    have hn : H T = none := I.hok.fresh hT
    have new : ObjOk X.prog X.w (upd H T (.tup [x, y])) h' T (.tup [x, y]) := ⟨by show 2 ≤ sizeLine; decide, [a, b], .cons ra (.cons rb .nil), ht⟩
    refine ⟨.ref T, _, I.turnedNew (ch := fp) (fun b o hb q => hk b o (fun z => hb (G.sub b z)) q) hf hT new, rfl, ⟨T, x, y, rfl, hn, rfl, e1, e2⟩, st', fun c hcm => ?_⟩
    have hlt : c < s.heap.objs.size := by
      obtain ⟨o, ho, _⟩ := obj i s.heap st c hcm
      exact Heap.lt_size ho
    rw [upd_ne (Nat.ne_of_lt (Nat.lt_of_lt_of_le hlt hT))]
    exact (hf c hcm).1
  done := by
    intro X hP hw hK hc i pins s σ H E I hf st hi
    subst hP hw hK
    have hi' : i = n := hi
    subst hi'
    have G := W X.A (I.ok.hd hc)
    exact G.stops s _ E st fun h' tk hk _ => I.turnedL (ch := fp) (fun b o hb q => hk b o (fun z => hb (G.sub b z)) q) hf
  self := hself
theorem walk_pairs {n : Nat} {f g : Nat → Option V} : Walk (ItP n f g) n (fun _ => True) (YPair f g) :=
  ⟨fun _ _ hi _ => hi, fun _ _ => rfl, fun _ _ _ _ _ _ y => y⟩

/-! ### zip and enumerate over texts -/
def sgn (z : Str) (i : Nat) : Option V := (z.cps[i]?).map fun c => .str ⟨#[c]⟩
theorem sgn_of {z : Str} {i c : Nat} {u : Tok} {v : Value} (h : z.cps[i]? = some c) (e : v = .str ⟨#[c]⟩ u) : sgn z i = some (.str ⟨#[c]⟩) ∧ RelV (.str ⟨#[c]⟩) v := by
  unfold sgn
  rw [h]
  exact ⟨rfl, u, e⟩
theorem striter_obj {h : Heap} {b : Addr} {ty : String} {z : Str} {t : Tok} {i : Nat} (st : h.IsStrIter b ty z t i) : ∃ o, h.get? b = some o ∧ ∀ v, o.data ≠ .cell v := by
  obtain ⟨o, e, _, d⟩ := st
  exact ⟨o, e, fun v q => by rw [d] at q; cases q⟩
def iZipS (ta : TA) : TI := fun σ H R => ta σ H fun vs H1 => ∃ y z : Str, vs = [.str y, .str z] ∧ R (ItP (min y.cps.size z.cps.size) (sgn y) (sgn z)) H1
def iEnumS (ta : TA) : TI := fun σ H R => ta σ H fun vs H1 => ∃ z : Str, vs = [.str z] ∧ R (ItP z.cps.size (fun i => some (.int (i : Nat))) (sgn z)) H1
section
variable {X : Cx}
theorem pi_zipS {e e2 : Expr} {ta : TA} {p pos tpos : Pos} {elts : List Expr} {kk : Nat} (hg : Gl X "zip") (hm : X.mg "zip" = none) (ha : PA X [e, e2] ta)
    (hs : starEach [e, e2] X.env = (false, eval e X.env) :: starEach [e2] X.env := by rfl) (hpl : (backTo pos (starEach [e2] X.env)).any (·.1) = false := by rfl) :
    PI X (.Tuple elts kk tpos) (.Call (.Name "zip" p) [e, e2] [] pos) (iZipS ta) := by
  refine ⟨fun pins s σ H R I h => ?_⟩
  refine Call_ (ld_blt I hg hm PyProof.Rows.boot_zip (PyProof.Rows.callWith_type1 (thn (ha.run pos pins s σ H _ I h) fun us s1 ⟨vs, H1, I1, r1, q1⟩ => ?_) hs hpl))
  obtain ⟨y, z, rfl, q⟩ := q1
  cases r1 with
  | cons r rr =>
    cases rr with
    | cons r' rr =>
      cases rr
      obtain ⟨t, rfl⟩ := r
      obtain ⟨t', rfl⟩ := r'
      refine zip_begins2 (begins_text y t) (begins_text z t') trivial trivial fun h' hz hTI hTO h1 h2 hsz hk => wpAny_pyIter_zip hz ?_
      have I2 : Inv X pins σ H1 { s1 with heap := h' } := I1.kept (t' := s1.toks) hk
      have St0 : ∀ {j : Addr} {x : Str} {u : Tok}, h'.get? j = some { cls := .type (strIterType x), data := .fields #[.str x u, .int 0 0] } → h'.IsStrIter j (strIterType x) x u 0 := fun e => ⟨_, e, rfl, rfl⟩
      refine ⟨s1.heap.objs.size + 4, (s1.heap.objs.size + 4) :: (s1.heap.objs.size + 2) :: (s1.heap.objs.size + 3) :: ([s1.heap.objs.size] ++ [s1.heap.objs.size + 1]),
        fun i h => IsZip h (s1.heap.objs.size + 4) (s1.heap.objs.size + 2) (s1.heap.objs.size + 3) .none ∧ IsTupOf2 h (s1.heap.objs.size + 2) (.ref s1.heap.objs.size) (.ref (s1.heap.objs.size + 1)) ∧ (∃ a1 a2, IsTupOf2 h (s1.heap.objs.size + 3) a1 a2) ∧
          h.IsStrIter s1.heap.objs.size (strIterType y) y t i ∧ h.IsStrIter (s1.heap.objs.size + 1) (strIterType z) z t' i, _, H1, rfl, I2,
        turn_pairs (n := min y.cps.size z.cps.size) (fun A hA => GoesN.zip2 (zip_sep2 (fp1 := []) (fp2 := []) (fun _ hb => absurd hb List.not_mem_nil) fun _ hb => absurd hb List.not_mem_nil) (Draws.text (A := A.in1) hA _ y t) (Draws.text (A := A.in1) hA _ z t')) ?hY (fun A i s Q E st h => wpAny_pyIter_zip st.1 h) (by simp) ?obj,
        ⟨hz, hTI, ⟨_, _, hTO⟩, St0 h1, St0 h2⟩, fun b hb => ?_, q⟩
      case hY =>
        rintro i h v h' ⟨T, a, b, rfl, hT, ⟨c, u, hc, ea⟩, ⟨c', u', hc', eb⟩, ht⟩
        obtain ⟨e1, r1⟩ := sgn_of hc ea
        obtain ⟨e2, r2⟩ := sgn_of hc' eb
        exact ⟨T, a, b, _, _, rfl, hT, ht, e1, e2, r1, r2⟩
      case obj =>
        rintro i h ⟨hz, hTI, ⟨a1, a2, hTO⟩, s1', s2'⟩ b hb
        have e' : b = s1.heap.objs.size + 4 ∨ b = s1.heap.objs.size + 2 ∨ b = s1.heap.objs.size + 3 ∨ b = s1.heap.objs.size ∨ b = s1.heap.objs.size + 1 := by simpa using hb
        rcases e' with q | q | q | q | q
        · rw [q]; exact ⟨_, hz, fun v z => nomatch z⟩
        · rw [q]; exact ⟨_, hTI, fun v z => nomatch z⟩
        · rw [q]; exact ⟨_, hTO, fun v z => nomatch z⟩
        · rw [q]; exact striter_obj s1'
        · rw [q]; exact striter_obj s2'
      · have e' : b = s1.heap.objs.size + 4 ∨ b = s1.heap.objs.size + 2 ∨ b = s1.heap.objs.size + 3 ∨ b = s1.heap.objs.size ∨ b = s1.heap.objs.size + 1 := by simpa using hb
        have hle : s1.heap.objs.size ≤ b := by
          rcases e' with z | z | z | z | z
          · rw [z]; exact Nat.le_add_right _ _
          · rw [z]; exact Nat.le_add_right _ _
          · rw [z]; exact Nat.le_add_right _ _
          · rw [z]; exact Nat.le_refl _
          · rw [z]; exact Nat.le_add_right _ _
        exact I1.fpOk hle (I1.hok.fresh hle)
theorem pi_enumS {e : Expr} {ta : TA} {p pos tpos : Pos} {elts : List Expr} {kk : Nat} (hg : Gl X "enumerate") (hm : X.mg "enumerate" = none) (ha : PA X [e] ta) (hs : starEach [e] X.env = [(false, eval e X.env)] := by rfl) :
    PI X (.Tuple elts kk tpos) (.Call (.Name "enumerate" p) [e] [] pos) (iEnumS ta) := by
  refine ⟨fun pins s σ H R I h => ?_⟩
  refine Call_ (ld_blt I hg hm boot_enumerate (PyProof.Rows.callWith_type1 (thn (ha.run pos pins s σ H _ I h) fun us s1 ⟨vs, H1, I1, r1, q1⟩ => ?_) hs rfl))
  obtain ⟨z, rfl, q⟩ := q1
  cases r1 with
  | cons r rr =>
    cases rr
    obtain ⟨t, rfl⟩ := r
    refine call_enumerate_str fun h' he hit hsz hk => wpAny_pyIter_enum he ?_
    have I2 : Inv X pins σ H1 { s1 with heap := h' } := I1.kept (t' := s1.toks) hk
    have hne : s1.heap.objs.size + 1 ∉ [s1.heap.objs.size] := by
      intro hm
      have := List.mem_singleton.mp hm
      exact absurd this (Nat.succ_ne_self _)
    refine ⟨s1.heap.objs.size + 1, (s1.heap.objs.size + 1) :: [s1.heap.objs.size],
      fun i h => (∃ old, IsEnum h (s1.heap.objs.size + 1) s1.heap.objs.size (0 + (i : Int)) old) ∧ h.IsStrIter s1.heap.objs.size (strIterType z) z t i, _, H1, rfl, I2,
      turn_pairs (n := z.cps.size) (fun A hA => GoesN.enumFrom 0 (Draws.text (A := A.in1) hA s1.heap.objs.size z t) (s1.heap.objs.size + 1) (Nat.succ_ne_self _) hne (by simp)) ?hY (fun A i s Q E st h => wpAny_pyIter_enum st.1.choose_spec h) (by simp) ?obj,
      ⟨⟨.none, he⟩, hit⟩, fun b hb => ?_, q⟩
    case hY =>
      rintro i h v h' ⟨T, u, x, rfl, hT, ⟨c, u', hc, ea⟩, ht⟩
      obtain ⟨e1, r1⟩ := sgn_of hc ea
      exact ⟨T, _, x, .int (i : Nat), _, rfl, hT, ht, rfl, e1, ⟨u, by simp⟩, r1⟩
    case obj =>
      rintro i h ⟨⟨old, he⟩, s1'⟩ b hb
      have e' : b = s1.heap.objs.size + 1 ∨ b = s1.heap.objs.size := by simpa using hb
      rcases e' with q | q
      · rw [q]; exact ⟨_, he, fun v z => nomatch z⟩
      · rw [q]; exact striter_obj s1'
    · have e' : b = s1.heap.objs.size + 1 ∨ b = s1.heap.objs.size := by simpa using hb
      have hle : s1.heap.objs.size ≤ b := by
        rcases e' with z | z
        · rw [z]; exact Nat.le_add_right _ _
        · rw [z]; exact Nat.le_refl _
      exact I1.fpOk hle (I1.hok.fresh hle)
def iZipU (K : PySem.W.Frag) (ta : TA) : TI := fun σ H R => iZip K ta σ H R ∨ iZipS ta σ H R
def iEnumU (K : PySem.W.Frag) (ta : TA) : TI := fun σ H R => iEnum K ta σ H R ∨ iEnumS ta σ H R
theorem pi_zipU {e e2 : Expr} {ta : TA} {p pos tpos : Pos} {elts : List Expr} {kk : Nat} (hg : Gl X "zip") (hm : X.mg "zip" = none) (ha : PA X [e, e2] ta)
    (hs : starEach [e, e2] X.env = (false, eval e X.env) :: starEach [e2] X.env := by rfl) (hpl : (backTo pos (starEach [e2] X.env)).any (·.1) = false := by rfl) :
    PI X (.Tuple elts kk tpos) (.Call (.Name "zip" p) [e, e2] [] pos) (iZipU X.K ta) := PI.or (pi_zip hg hm ha hs hpl) (pi_zipS hg hm ha hs hpl)
theorem pi_enumU {e : Expr} {ta : TA} {p pos tpos : Pos} {elts : List Expr} {kk : Nat} (hg : Gl X "enumerate") (hm : X.mg "enumerate" = none) (ha : PA X [e] ta) (hs : starEach [e] X.env = [(false, eval e X.env)] := by rfl) :
    PI X (.Tuple elts kk tpos) (.Call (.Name "enumerate" p) [e] [] pos) (iEnumU X.K ta) := PI.or (pi_enum hg hm ha hs) (pi_enumS hg hm ha hs)
end
end Px

namespace Px
open PySem PySem.Spec PyProof.Rows L2
section
variable {X : Cx}
theorem PE.or {e : Expr} {t1 t2 : TE} (h1 : PE X e t1) (h2 : PE X e t2) : PE X e (fun σ H Q => t1 σ H Q ∨ t2 σ H Q) := by
  refine ⟨fun pins s σ H Q I h => ?_⟩
  rcases h with h | h
  · exact h1.run pins s σ H Q I h
  · exact h2.run pins s σ H Q I h
/-! ### a text from behind -/
def revS (z : Str) : Str := ⟨z.cps.toList.reverse.toArray⟩
theorem rev_picked (z : Str) (t : Tok) (u : Tok) : sliceMade z t none none (some (-1, u)) = .str (revS z) := by
  unfold sliceMade slicePicked
  have h1 : ((((some ((-1 : Int), u)).map (·.1)).getD 1 == 1) && ((Builtin.Str.strSliceIndices (Option.map (·.1) (none : Option (Int × Tok))) (Option.map (·.1) (none : Option (Int × Tok))) (((some ((-1 : Int), u)).map (·.1)).getD 1) z.length).length == z.length)) = false := by
    rw [Bool.and_eq_false_iff]
    left
    rfl
  rw [h1, if_neg Bool.false_ne_true]
  have h2 : Builtin.Str.strSliceIndices (Option.map (·.1) (none : Option (Int × Tok))) (Option.map (·.1) (none : Option (Int × Tok))) (((some ((-1 : Int), u)).map (·.1)).getD 1) z.length = sliceRange ((z.length : Int) - 1) (-1) (-1) := rfl
  rw [h2, PySem.W.krv_sliceRange, PySem.W.krv_range, List.filterMap_reverse]
  have h3 : List.filterMap (fun x => z.cps[x]?) (List.range z.length) = z.cps.toList := PySem.W.krv_all z.cps
  rw [h3]
  rfl
def tRevS (te : TE) : TE := fun σ H Q => te σ H fun x H1 => ∃ z, x = .str z ∧ z.length ≤ sizeLine ∧ Q (.str (revS z)) H1
theorem pe_revS {e : Expr} {te : TE} {k : Nat} {p1 p2 p3 pos : Pos} (he : PE X e te) : PE X (.Subscript e (.Slice none none (some (.UnaryOp .USub (.Constant (.int 1) k p1) p2)) p3) pos) (tRevS te) := by
  refine ⟨fun pins s σ H Q I h => ?_⟩
  refine Subscript_ (thn (he.run pins s σ H _ I h) fun v s1 ⟨x, H1, I1, r1, q1⟩ => ?_)
  obtain ⟨z, rfl, hz, q⟩ := q1
  obtain ⟨t, rfl⟩ := r1
  have hst : PO X (some (.UnaryOp .USub (.Constant (.int 1) k p1) p2)) (tPart (tUn rNegI (tC (.int 1)))) := po_some (pe_un un_neg pe_int)
  refine wpAny_Slice (thn (po_none.run pins s1 σ H1 (fun o G => o = none ∧ G = H1) I1 ⟨rfl, rfl⟩) fun vl s2 ⟨l, H2, I2, pl, el, e2⟩ => ?_)
  subst el e2
  refine thn (po_none.run pins s2 σ H2 (fun o G => o = none ∧ G = H2) I2 ⟨rfl, rfl⟩) fun vu s3 ⟨u, H3, I3, pu, eu, e3⟩ => ?_
  subst eu e3
  refine thn (hst.run pins s3 σ H3 (fun o G => o = some (-1) ∧ G = H3) I3 ⟨1, rfl, -1, rfl, rfl, rfl⟩) fun vs s4 ⟨o, H4, I4, ps, eo, e4⟩ => ?_
  subst eo e4
  have I5 : Inv X pins σ H4 { s4 with heap := s4.heap.push { cls := .type "slice", data := .fields #[vl, vu, vs] } } := I4.kept (t' := s4.toks) fun b ob q => Heap.get?_push_of_some _ q
  obtain ⟨l, rfl, e1⟩ := IsPart.raw pl
  obtain ⟨u, rfl, e2⟩ := IsPart.raw pu
  obtain ⟨w3, rfl, e3⟩ := IsPart.raw ps
  cases l with
  | some p => cases e1
  | none =>
    cases u with
    | some p => cases e2
    | none =>
      cases w3 with
      | none => cases e3
      | some p =>
        obtain ⟨i, tk⟩ := p
        have hi : i = (-1 : Int) := Option.some.inj e3
        subst hi
        refine tail_any (ops := [.ref s4.heap.objs.size, .str z t]) (typeIs_str _ _ _) (F.slot_str_getitem.lookup) ?_ (by with_unfolding_all rfl)
        refine wpAny_getItem_str_slice (l := none) (u := none) (st := some (-1, tk)) ⟨_, Heap.get?_push_size _ rfl, rfl, rfl⟩ rfl ?_
        rw [rev_picked]
        refine ⟨?_, .str _, H4, I5.tok _, ⟨_, rfl⟩, q⟩
        have e : (revS z).length = z.length := by
          unfold revS
          show (List.toArray z.cps.toList.reverse).size = z.cps.size
          simp
        omega
def tRevU (K : PySem.W.Frag) (te : TE) : TE := fun σ H Q => tRevL K te σ H Q ∨ tRevS te σ H Q
theorem pe_rev {e : Expr} {te : TE} {k : Nat} {p1 p2 p3 pos : Pos} (he : PE X e te) : PE X (.Subscript e (.Slice none none (some (.UnaryOp .USub (.Constant (.int 1) k p1) p2)) p3) pos) (tRevU X.K te) := PE.or (pe_revL he) (pe_revS he)

/-! ### repr -/
def rRepr (K : PySem.W.Frag) : List V → Hp → VK → Prop := fun xs H Q => ∃ x d, xs = [x] ∧ Dp K H x d ∧ d.showable = true ∧ d.shown.length ≤ sizeLine ∧ d.depth ≤ 60 ∧ Q (.str d.shown) H
mutual
theorem dp_noDict {K : PySem.W.Frag} {H : Hp} : ∀ (d : PyData) (v : V), Dp K H v d → d.hasDict = false
  | .none, _, _ => by simp only [PyData.hasDict]
  | .bool _, _, _ => by simp only [PyData.hasDict]
  | .int _, _, _ => by simp only [PyData.hasDict]
  | .str _, _, _ => by simp only [PyData.hasDict]
  | .list ds, _, h => by
    cases h with
    | lst _ ha => simp only [PyData.hasDict]; exact dp_noDictAll ds _ ha
  | .tuple ds, _, h => by
    cases h with
    | tup _ ha => simp only [PyData.hasDict]; exact dp_noDictAll ds _ ha
  | .dict _, _, h => by cases h
theorem dp_noDictAll {K : PySem.W.Frag} {H : Hp} : ∀ (ds : List PyData) (vs : List V), DpAll K H vs ds → PyData.hasDictAll ds = false
  | [], _, _ => by simp only [PyData.hasDictAll]
  | d :: ds, _, h => by
    cases h with
    | cons h1 h2 =>
      simp only [PyData.hasDictAll]
      rw [dp_noDict d _ h1, dp_noDictAll ds _ h2]
      rfl
end
theorem c_repr (hg : X.A.guards = some []) (hu : X.A.units + 64 < cLine) : CallR X (.builtin "repr") (rRepr X.K) := by
  intro pins s σ H xs us Q I r h
  obtain ⟨x, d, rfl, hd, hs, hz, hdep, q⟩ := h
  obtain ⟨u, rfl, rx⟩ := vals1 r
  obtain ⟨as, rd⟩ := Dp.reads I d x u hd rx
  have hnd := dp_noDict d x hd
  cases x with
  | ref a =>
    obtain rfl : u = .ref a := rx
    refine repr_of_reads' rd hs (fun h => by rw [hnd] at h; cases h) hg (by omega) (fun _ _ e => e) (fun h' u tk hk => ⟨.str _, H, I.kept (t' := tk) hk, ⟨u, rfl⟩, q⟩) hz
  | non =>
    cases hd
    obtain rfl : u = .none := rx
    simp only [PyData.shown] at q
    exact PySem.P.repr_of_none ⟨.str _, H, I.tok _, ⟨_, rfl⟩, q⟩
  | bl b =>
    cases hd
    obtain rfl : u = .bool b := rx
    simp only [PyData.shown] at q
    exact PySem.P.repr_of_bool ⟨.str _, H, I.tok _, ⟨_, rfl⟩, q⟩
  | int i =>
    cases hd
    obtain ⟨t, rfl⟩ := rx
    simp only [PyData.shown] at q
    simp only [PyData.showable] at hs
    exact PySem.P.repr_of_int (of_decide_eq_true hs) ⟨.str _, H, I.tok _, ⟨_, rfl⟩, q⟩
  | str z =>
    cases hd
    obtain ⟨t, rfl⟩ := rx
    simp only [PyData.shown] at q hz
    exact PySem.P.repr_of_str ⟨.str _, H, I.tok _, ⟨_, rfl⟩, q⟩ hz
  | byt b => cases hd
  | flt b => cases hd
  | ty n => cases hd

/-! ### contracts that know that no repr is under way -/
structure FnG (P : Program) (w : World) (K : PySem.W.Frag) (mg : Str → Option Value) (base : Heap) (CX : CXT) (k : Nat) (f : Addr) (fd : FuncData) (ps : List Str) (sp : Sp) : Prop where
  len : ∀ vs H Q E, sp vs H Q E → vs.length = ps.length
  run : ∀ (A : Around) (outer : List Env) (s : Shared) (H : Hp) (args : Args) (us : List Value) (vs : List V) (Q : VK) (E : XK), A.guards = some [] → Room k A → Env0 P w K mg base A outer s H → BindsTo s fd args (ps.zip us) →
    Vals vs us → sp vs H Q E → codeAny (model P w) A (.call (.ref f) args) (CR CX outer P w H s Q E) s
theorem FnG.of {P : Program} {w : World} {K : PySem.W.Frag} {mg : Str → Option Value} {base : Heap} {CX : CXT} {k : Nat} {f : Addr} {fd : FuncData} {ps : List Str} {sp : Sp} (F : FnOk P w K mg base CX k f fd ps sp) : FnG P w K mg base CX k f fd ps sp :=
  ⟨F.len, fun A outer s H args us vs Q E _ => F.run A outer s H args us vs Q E⟩
end
section
variable {X : Cx} {CX : CXT} {k : Nat} {f : Addr} {fd : FuncData} {ps : List Str} {sp : Sp} {ds : List Value} {dvs : List V} {E : XK} {x : Str} {p pos : Pos} {e : Expr} {es : List Expr} {t : TA}
theorem run_g {pins : List (Addr × Obj)} {σ : L2.St} {H : Hp} {s : Shared} {Q : VK} {us : List Value} {vs : List V} (F : FnG X.prog X.w X.K X.mg X.base CX k f fd ps sp) (hG : X.A.guards = some []) (hr : Room k X.A) (hb : Binds X.K fd ps ds) (hd : Vals dvs ds)
    (hx : Passes CX X E) (I : Inv X pins σ H s) (r : Vals vs us) (h : sp (vs ++ dvs) H Q E) : wpAny (model X.prog X.w) X.A (call (.ref f) us) (EP X pins σ Q) X.xe s := by
  have r2 : Vals (vs ++ dvs) (us ++ ds) := r.append hd
  have hl : (us ++ ds).length = ps.length := r2.length.symm.trans (F.len _ _ _ _ h)
  have go := F.run X.A X.stack s H ⟨us, []⟩ (us ++ ds) (vs ++ dvs) Q E hG hr I.env0 (hb s us I.kIn hl) r2 h
  refine wpAny_call (codeAny_mono go fun r s' hq => ?_)
  match r, hq with
  | .error e, hq => exact hx pins σ H s e s' I hq
  | .ok (.ret u), hq => exact I.after hq
  | .ok .next, hq => exact hq.elim
  | .ok .brk, hq => exact hq.elim
  | .ok .cont, hq => exact hq.elim
theorem pe_callG (F : FnG X.prog X.w X.K X.mg X.base CX k f fd ps sp) (hG : X.A.guards = some []) (hr : Room k X.A) (hg : Gl X x) (hm : X.mg x = some (.ref f)) (hk : PySem.W.keepIn X.K (.ref f) = true) (hb : Binds X.K fd ps ds) (hd : Vals dvs ds) (hx : Passes CX X E)
    (ha : PA X (e :: es) t) (hdb : (x == ("__debug__" : Str)) = false := by decide) (he : starEach (e :: es) X.env = (false, eval e X.env) :: starEach es X.env := by rfl) (hpl : (backTo pos (starEach es X.env)).any (·.1) = false := by rfl) :
    PE X (.Call (.Name x p) (e :: es) [] pos) (tCall sp dvs E t) := by
  refine ⟨fun pins s σ H Q I h => wpAny_Call_Name_kw (ld_glob I hg hm ?_ hdb)⟩
  exact PySem.W.callWith_K (h₀ := X.base) I.ok.mod.kin hk (thn (ha.run pos pins s σ H _ I h) fun us s1 ⟨vs, H1, I1, r, q⟩ => ⟨I1.kIn, run_g F hG hr hb hd hx I1 r q⟩) he hpl
theorem pe_callG0 (F : FnG X.prog X.w X.K X.mg X.base CX k f fd ps sp) (hG : X.A.guards = some []) (hr : Room k X.A) (hg : Gl X x) (hm : X.mg x = some (.ref f)) (hk : PySem.W.keepIn X.K (.ref f) = true) (hb : Binds X.K fd ps ds) (hd : Vals dvs ds) (hx : Passes CX X E)
    (hdb : (x == ("__debug__" : Str)) = false := by decide) : PE X (.Call (.Name x p) [] [] pos) (tCall sp dvs E tNil) :=
  ⟨fun pins s σ H Q I h => wpAny_Call_Name_kw (ld_glob I hg hm (PySem.W.callWith_K0 I.kIn hk (run_g (us := []) F hG hr hb hd hx I .nil h)) hdb)⟩
end
section
variable {P : Program} {w : World} {K : PySem.W.Frag} {mg : Str → Option Value} {base : Heap} {x qual : Str} {params : Arguments} {body : List Stmt} {scope : Scope} {dvs : List V} {kws : List (Str × V)} {f : Addr} {fd : FuncData}
theorem fnG_ok {CX : CXT} {N ps : List Str} {k : Nat} {sp : Sp} (F : FunD K x qual params body scope dvs kws f fd) (S : FnScope N ps scope) (len : ∀ vs H Q E, sp vs H Q E → vs.length = ps.length)
    (hbody : ∀ (cdv : Value) (A : Around) (outer : List Env) (s : Shared) (H : Hp) (vs : List V) (Q : VK) (E : XK), (A.deeper (envOfC qual scope s.heap.objs.size f cdv)).guards = some [] → Room k (A.deeper (envOfC qual scope s.heap.objs.size f cdv)) → sp vs H Q E →
      ∃ t, PSs (cxOf CX P w K mg base N qual scope f cdv A outer s H E) body t ∧ t { nx := fun _ H' => Q .non H', rt := Q } (start N vs) H) : FnG P w K mg base CX (k + 1) f fd ps sp := by
  obtain ⟨oc, od, dV, kV, doc, pm, an, cdv, ct, osl, rfl, lk, hcd, _, _⟩ := F.ex
  refine ⟨len, fun A outer s H args us vs Q E hG hr e0 hb r hsp => ?_⟩
  have KX : K.In s.heap := e0.mod.kin.keeps fun b o e => (e0.bs b o e).1
  have lim : s.heap.NoLimit := e0.mod.nolimit.keeps fun b o e => (e0.bs b o e).1
  have hkind : ∀ y ∈ ps.zip us, scope.names.lookup y.1 = some .local ∨ (scope.names.lookup y.1 = some .cell ∧ ((cellsFrom (s.heap.objs.size + 1) scope.names []).lookup y.1).isSome = true) := fun y hy =>
    (S.par y.1 (List.of_mem_zip (show (y.1, y.2) ∈ ps.zip us from hy)).1).imp id fun q => ⟨q, PySem.W.cellsFrom_some _ _ _ (.inl q)⟩
  refine codeAny_call_function hr.depth (KX _ _ lk) rfl S.co S.gen rfl (PySem.W.codeRec_of KX hcd) (hb _ _ _ _ (wpAny_newFunctionEnv_cells S.kind hkind fun env he s1 x => ?_))
  subst he
  refine ⟨lim.keeps x.toInCall.keep, codeAny_func ?_⟩
  obtain ⟨t, ht, hq⟩ := hbody cdv A outer s H vs Q E hG (hr.deeper _) hsp
  have I : Inv (cxOf CX P w K mg base N qual scope f cdv A outer s H E) [] (start N vs) H s1 := inv_start S hr.hd e0 (len _ _ _ _ hsp) r x
  refine wpAny_mono (ht.run [] s1 (start N vs) H _ I hq) (fun fl s' hs => ?_) fun e s' hs => hs
  match fl, hs with
  | .ret u, ⟨v, σ', H', J, rv, q⟩ => exact ⟨v, H', J.os, J.bare, J.base, J.hok, rv, q⟩
  | .next, ⟨σ', H', J, q⟩ => exact ⟨V.non, H', J.os, J.bare, J.base, J.hok, rfl, q⟩
  | .brk, ⟨_, _, _, q⟩ => exact q.elim
  | .cont, ⟨_, _, _, q⟩ => exact q.elim
end
end Px

namespace Px
open PySem PySem.Spec PyProof.Rows L2
/-! ### built-ins by any kind of value -/
def rLenU (K : PySem.W.Frag) : List V → Hp → VK → Prop := fun xs H Q => ∃ x n, xs = [x] ∧ LenV K x H n ∧ Q (.int n) H
def rAbs : List V → Hp → VK → Prop := fun xs H Q => ∃ i, xs = [.int i] ∧ Q (.int (if i < 0 then -i else i)) H
def rMax2 : List V → Hp → VK → Prop := fun xs H Q => ∃ i j, xs = [.int i, .int j] ∧ Q (.int (if j > i then j else i)) H
def rMin2 : List V → Hp → VK → Prop := fun xs H Q => ∃ i j, xs = [.int i, .int j] ∧ Q (.int (if j < i then j else i)) H
def rStrI : List V → Hp → VK → Prop := fun xs H Q => ∃ i, xs = [.int i] ∧ i.natAbs.log2 < 1920 ∧ Q (.str (toString i)) H
def rListOf (K : PySem.W.Frag) : List V → Hp → VK → Prop := fun xs H Q => ∃ p ys, xs = [.ref p] ∧ (SqL K H p ys ∨ SqT K H p ys) ∧ ∀ l, H l = none → Q (.ref l) (upd H l (.lst ys))
def rOrd : List V → Hp → VK → Prop := fun xs H Q => ∃ i : Nat, xs = [.str ⟨#[i]⟩] ∧ Q (.int i) H
def rJoin (K : PySem.W.Frag) : V → List V → Hp → VK → Prop := fun x xs H Q => ∃ a p, ∃ ys : List Str, x = .str a ∧ xs = [.ref p] ∧ (SqL K H p (ys.map V.str) ∨ SqT K H p (ys.map V.str)) ∧
  (ys.map (·.length)).sum + ys.length * a.length ≤ 16777216 ∧ Q (.str (Txt.join a ys)) H
def tJoinU (K : PySem.W.Frag) (to te : TE) : TE := tM1 (rJoin K) to te
section
variable {X : Cx}
theorem c_lenU : CallR X (.builtin "len") (rLenU X.K) := call_len
theorem c_abs : CallR X (.builtin "abs") rAbs := call_abs
theorem c_max2 (hc : X.calm = true) : CallR X (.builtin "max") rMax2 := call_max2 hc
theorem c_min2 (hc : X.calm = true) : CallR X (.builtin "min") rMin2 := call_min2 hc
/-! ### x += y -/
def rIaddS : TIp := fun x y H Q => ∃ i j, x = .str i ∧ y = .str j ∧ i.length + j.length ≤ sizeLine ∧ Q (.str (i ++ j)) H
def rIaddU (K : PySem.W.Frag) : TIp := fun x y H Q => ipI (fun i j => i + j) x y H Q ∨ rIaddS x y H Q
theorem PIp.or {op : Operator} {t1 t2 : TIp} (h1 : PIp X op t1) (h2 : PIp X op t2) : PIp X op (fun x y H Q => t1 x y H Q ∨ t2 x y H Q) := fun pins s σ H x y v u Q I rx ry h => by
  rcases h with h | h
  · exact h1 pins s σ H x y v u Q I rx ry h
  · exact h2 pins s σ H x y v u Q I rx ry h
theorem ip_addU : PIp X .Add (rIaddU X.K) := PIp.or ip_add fun pins s σ H x y v u Q I rx ry h => iop_add_str pins s σ H x y v u Q I rx ry h
end
section
variable {K : PySem.W.Frag} {σ : S} {H : Hp} {Q : VK} {D : Ends} {t u : TS} {ta tb tc td te : TE} {x y v : V} {tr : TA} {i j : Int}
theorem r_addUI (h : Q (.int (i + j)) H) : rAddU K (.int i) (.int j) H Q := .inl ⟨i, j, rfl, rfl, h⟩
theorem r_addUS {a b : Str} (h1 : a.length + b.length ≤ sizeLine) (h : Q (.str (a ++ b)) H) : rAddU K (.str a) (.str b) H Q := .inr (.inl ⟨a, b, rfl, rfl, h1, h⟩)
theorem r_addUL {l b : Addr} {xs zs : List V} (h1 : H l = some (.lst xs)) (h2 : H b = some (.lst zs)) (h3 : xs.length + zs.length ≤ sizeLine) (h : ∀ p, H p = none → Q (.ref p) (upd H p (.lst (xs ++ zs)))) : rAddU K (.ref l) (.ref b) H Q :=
  .inr (.inr (.inl ⟨l, b, xs, zs, rfl, rfl, h1, h2, h3, h⟩))
theorem r_mulUI (h1 : CMul i j) (h : Q (.int (i * j)) H) : rMulU K (.int i) (.int j) H Q := .inl ⟨i, j, rfl, rfl, h1, h⟩
theorem r_mulUL {l : Addr} {xs : List V} (h1 : H l = some (.lst xs)) (h2 : -(2 ^ 63) ≤ i ∧ i < 2 ^ 63) (h3 : xs.length * i.toNat ≤ sizeLine) (h : ∀ p, H p = none → Q (.ref p) (upd H p (.lst (List.replicate i.toNat xs).flatten))) : rMulU K (.ref l) (.int i) H Q :=
  .inr ⟨l, i, xs, rfl, rfl, h1, h2.1, h2.2, h3, h⟩
theorem r_eqUI (h : Q (.bl (decide (i = j))) H) : rEqU K (.int i) (.int j) H Q := .inl (r_eqI h)
theorem r_eqUS {a b : Str} (h : Q (.bl (decide (a = b))) H) : rEqU K (.str a) (.str b) H Q := .inl (r_eqS h)
theorem r_eqUB {a b : Bool} (h : Q (.bl (decide (a = b))) H) : rEqU K (.bl a) (.bl b) H Q := .inl (r_eqB h)
theorem r_neUI (h : Q (.bl (!decide (i = j))) H) : rNeU K (.int i) (.int j) H Q := .inl (r_neI h)
theorem r_neUS {a b : Str} (h : Q (.bl (!decide (a = b))) H) : rNeU K (.str a) (.str b) H Q := .inl (r_neS h)
theorem r_eqUD {d e : PyData} (h1 : Dp K H x d) (h2 : Dp K H y e) (h3 : SeqAt.shaped d = true) (h4 : SeqAt.shaped e = true) (h : Q (.bl (PyData.eqv d e)) H) : rEqU K x y H Q := .inr ⟨d, e, h1, h2, h3, h4, h⟩
theorem r_neUD {d e : PyData} (h1 : Dp K H x d) (h2 : Dp K H y e) (h3 : SeqAt.shaped d = true) (h4 : SeqAt.shaped e = true) (h : Q (.bl (!PyData.eqv d e)) H) : rNeU K x y H Q := .inr ⟨d, e, h1, h2, h3, h4, h⟩
theorem r_lenUL {a : Addr} {xs : List V} (h1 : SqL K H a xs) (h : Q (.int xs.length) H) : rLenU K [.ref a] H Q := ⟨_, xs.length, rfl, .inl ⟨xs, h1, rfl⟩, h⟩
theorem r_lenUT {a : Addr} {xs : List V} (h1 : SqT K H a xs) (h : Q (.int xs.length) H) : rLenU K [.ref a] H Q := ⟨_, xs.length, rfl, .inr ⟨xs, h1, rfl⟩, h⟩
theorem r_lenUS {z : Str} (h1 : z.length ≤ sizeLine) (h : Q (.int z.length) H) : rLenU K [.str z] H Q := ⟨_, z.length, rfl, ⟨h1, rfl⟩, h⟩
theorem r_abs (h : Q (.int (if i < 0 then -i else i)) H) : rAbs [.int i] H Q := ⟨i, rfl, h⟩
theorem r_max2 (h : Q (.int (if j > i then j else i)) H) : rMax2 [.int i, .int j] H Q := ⟨i, j, rfl, h⟩
theorem r_min2 (h : Q (.int (if j < i then j else i)) H) : rMin2 [.int i, .int j] H Q := ⟨i, j, rfl, h⟩
theorem r_strI (h1 : i.natAbs.log2 < 1920) (h : Q (.str (toString i)) H) : rStrI [.int i] H Q := ⟨i, rfl, h1, h⟩
theorem r_listL {a : Addr} {xs : List V} (h1 : SqL K H a xs) (h : ∀ l, H l = none → Q (.ref l) (upd H l (.lst xs))) : rListOf K [.ref a] H Q := ⟨a, xs, rfl, .inl h1, h⟩
theorem r_min {a : Addr} {ns : List Int} (h1 : SqL K H a (ns.map V.int)) (h2 : 0 < ns.length) (h : ∀ m, m ∈ ns → (∀ y, y ∈ ns → m ≤ y) → Q (.int m) H) : rMin K [.ref a] H Q := ⟨a, ns, rfl, h1, h2, h⟩
theorem r_isi {c : V} {tv cu : Value} {b : Bool} (h1 : ClsV c cu) (h2 : TyX K H x tv) (h3 : PySem.W.kitOne K tv cu = some b) (h : Q (.bl b) H) : rIsi K [x, c] H Q := ⟨x, c, tv, cu, b, rfl, h1, h2, h3, h⟩
theorem r_repr {d : PyData} (h1 : Dp K H x d) (h2 : d.showable = true) (h3 : d.shown.length ≤ sizeLine) (h4 : d.depth ≤ 60) (h : Q (.str d.shown) H) : rRepr K [x] H Q := ⟨x, d, rfl, h1, h2, h3, h4, h⟩
theorem r_sl {r : V → Option Int → Option Int → Hp → VK → Prop} {tl th : TO} (h : te σ H fun x H1 => tl σ H1 fun l H2 => th σ H2 fun u H3 => r x l u H3 Q) : tSl r te tl th σ H Q := h
theorem r_noPart {P : Option Int → Hp → Prop} (h : P none H) : tNoPart σ H P := h
theorem r_part {P : Option Int → Hp → Prop} (h : te σ H fun x H1 => ∃ i, x = .int i ∧ P (some i) H1) : tPart te σ H P := h
theorem r_int {P : Int → Prop} (h : P i) : ∃ k, V.int i = V.int k ∧ P k := ⟨i, rfl, h⟩
theorem r_slUL {lo hi : Option Int} {a : Addr} {xs : List V} (h1 : SqL K H a xs) (h : ∀ p, H p = none → Q (.ref p) (upd H p (.lst (cutV xs lo hi)))) : rSlU K (.ref a) lo hi H Q := .inl ⟨a, xs, rfl, h1, h⟩
theorem r_slUS {lo hi : Option Int} {z : Str} (h1 : z.length ≤ sizeLine) (h : Q (.str (cutS z lo hi)) H) : rSlU K (.str z) lo hi H Q := .inr (.inl ⟨z, rfl, h1, h⟩)
theorem r_bm {T : String} {r : V → List V → Hp → VK → Prop} (h : ta σ H fun x H1 => tyV K T x H1 ∧ tr σ H1 fun xs H2 => r x xs H2 Q) : tBM K T r ta tr σ H Q := h
theorem r_tyL {a : Addr} {xs : List V} (h1 : SqL K H a xs) : tyV K "list" (.ref a) H := .inl ⟨rfl, _, h1⟩
theorem r_append {p : Addr} {xs : List V} (h1 : H p = some (.lst xs)) (h2 : xs.length < sizeLine) (h : Q .non (upd H p (.lst (xs ++ [y])))) : rAppend (.ref p) [y] H Q := ⟨p, xs, y, rfl, rfl, h1, h2, h⟩
theorem r_join {z : Str} (h : te σ H fun y H2 => rJoin K (.str z) [y] H2 Q) (h0 : ta = tC (.str z)) : tJoinU K ta te σ H Q := by
  subst h0
  exact ⟨⟨z, rfl⟩, h⟩
theorem r_chain3 {r r' r'' : R2} (h : ta σ H fun x H1 => tb σ H1 fun y H2 => r x y H2 fun z H3 => ∃ k, z = .bl k ∧
  (if k = true then tc σ H3 fun y' H4 => r' y y' H4 fun z' H5 => ∃ k', z' = .bl k' ∧ (if k' = true then td σ H5 fun w' H6 => r'' y' w' H6 Q else Q (.bl false) H5) else Q (.bl false) H3)) : tChain3 r r' r'' ta tb tc td σ H Q := h
theorem r_iaddI {P : V → Hp → Prop} (h : P (.int (i + j)) H) : rIaddU K (.int i) (.int j) H P := .inl ⟨i, j, rfl, rfl, h⟩
theorem r_iaddS {a b : Str} {P : V → Hp → Prop} (h1 : a.length + b.length ≤ sizeLine) (h : P (.str (a ++ b)) H) : rIaddU K (.str a) (.str b) H P := .inr ⟨a, b, rfl, rfl, h1, h⟩
def tFors (J : It) (g : TG) (tb : TS) (D : Ends) (σ : S) (H : Hp) : Prop := ∃ W : Nat → Nat → S → Hp → Prop, (∃ m, W 0 m σ H) ∧ ∀ i m σ H, W i m σ H →
  (J.stop i H ∧ D.nx σ H) ∨ (J.go i H ∧ ∃ N : S → Hp → Prop, (∀ σ' H', N σ' H' → ∃ m', m' < m ∧ W (i + 1) m' σ' H') ∧ ∀ x H', J.yld i H x H' → g x σ H' fun σ2 H2 => tb { D with nx := N, ct := N, bk := D.nx } σ2 H2)
theorem r_for {wi : TI} {g : TG} {tb : TS} (h : wi σ H fun J H1 => tFors J g tb D σ H1) : tFor wi g tb D σ H := h
theorem f_it {J : It} {n : Nat} {G : Hp → Prop} {Y : Nat → Hp → V → Hp → Prop} {g : TG} {tb : TS} (w : Walk J n G Y) (Pv : Nat → S → Hp → Prop) (h0 : Pv 0 σ H) (hG : ∀ i σ H, i ≤ n → Pv i σ H → G H)
    (hs : ∀ i x σ H H', i < n → Pv i σ H → Y i H x H' → g x σ H' fun σ2 H2 => tb { D with nx := Pv (i + 1), ct := Pv (i + 1), bk := D.nx } σ2 H2) (hd : ∀ σ H, Pv n σ H → D.nx σ H) : tFors J g tb D σ H := for_it w Pv h0 hG hs hd
def tLcs (J : It) (g : TG) (tt : TT) (te : TE) (vs : List Nat) (σ : S) (H1 : Hp) (D : Addr) (Qd : Hp → Prop) : Prop := ∃ W : Nat → Nat → Hp → Prop, (∃ m, W 0 m (upd H1 D (.lst []))) ∧ ∀ i m H, W i m H →
  (J.stop i H ∧ Qd H) ∨ (J.go i H ∧ ∃ Nx : Hp → Prop, (∀ H', Nx H' → ∃ m', m' < m ∧ W (i + 1) m' H') ∧ ∀ x H', J.yld i H x H' → g x (wipe σ vs) H' fun σ2 H2 => wipe σ2 vs = wipe σ vs ∧ tt σ2 H2 fun b H3 =>
    if b = true then te σ2 H3 fun y H4 => ∃ acc, H4 D = some (.lst acc) ∧ acc.length < sizeLine ∧ Nx (upd H4 D (.lst (acc ++ [y]))) else Nx H3)
theorem r_lc {wi : TI} {g : TG} {tt : TT} {vs : List Nat} (h : wi σ H fun J H1 => ∀ p, H1 p = none → tLcs J g tt te vs σ H1 p fun H2 => Q (.ref p) H2) : tLc wi g tt te vs σ H Q := h
theorem c_it {J : It} {n : Nat} {G : Hp → Prop} {Y : Nat → Hp → V → Hp → Prop} {g : TG} {tt : TT} {vs : List Nat} {p : Addr} {Qd : Hp → Prop} (w : Walk J n G Y) (Pv : Nat → Hp → Prop) (h0 : Pv 0 (upd H p (.lst []))) (hG : ∀ i H, i ≤ n → Pv i H → G H)
    (hs : ∀ i x H H', i < n → Pv i H → Y i H x H' → g x (wipe σ vs) H' fun σ2 H2 => wipe σ2 vs = wipe σ vs ∧ tt σ2 H2 fun b H3 =>
      if b = true then te σ2 H3 fun y H4 => ∃ acc, H4 p = some (.lst acc) ∧ acc.length < sizeLine ∧ Pv (i + 1) (upd H4 p (.lst (acc ++ [y]))) else Pv (i + 1) H3) (hd : ∀ H, Pv n H → Qd H) : tLcs J g tt te vs σ H p Qd := lc_it w Pv h0 hG hs hd
theorem r_while {c : TT} {tb : TS} (Pv : S → Hp → Prop) (μ : S → Hp → Nat) (Pe : S → Hp → Prop) (h0 : Pv σ H) (he : ∀ σ H, Pe σ H → D.nx σ H)
    (hs : ∀ σ H, Pv σ H → (∀ σ H, Pe σ H → D.nx σ H) → c σ H fun b H1 => if b = true then ∃ N : S → Hp → Prop, (∀ σ' H', N σ' H' → ∃ m', m' < μ σ H ∧ (m' = μ σ' H' ∧ Pv σ' H')) ∧ tb { D with nx := N, ct := N, bk := D.nx } σ H1 else D.nx σ H1) : tWhile c tb D σ H := by
  refine ⟨fun m σ H => m = μ σ H ∧ Pv σ H, ⟨_, rfl, h0⟩, ?_⟩
  rintro m σ H ⟨rfl, p⟩
  exact hs σ H p he
theorem r_turn {tb : TS} {Pv : S → Hp → Prop} {μ : S → Hp → Nat} {m : Nat} {rt : VK} {bk : S → Hp → Prop} (h : tb { nx := fun σ' H' => Pv σ' H' ∧ μ σ' H' < m, rt := rt, ct := fun σ' H' => Pv σ' H' ∧ μ σ' H' < m, bk := bk } σ H) :
    ∃ N : S → Hp → Prop, (∀ σ' H', N σ' H' → ∃ m', m' < m ∧ (m' = μ σ' H' ∧ Pv σ' H')) ∧ tb { nx := N, rt := rt, ct := N, bk := bk } σ H :=
  ⟨_, fun σ' H' q => ⟨_, q.2, rfl, q.1⟩, h⟩
theorem r_iteNT {A B : Prop} (h : B) : if (!true) = true then A else B := h
theorem r_iteNF {A B : Prop} (h : A) : if (!false) = true then A else B := h
theorem r_isiT {p : Addr} {xs : List V} (h1 : H p = some (.tup xs)) (h : Q (.bl true) H) : rIsi K [.ref p, .ty "tuple"] H Q := r_isi (.ty "tuple") (.base (.tup h1)) (kit_ty (by decide +kernel)) h
theorem r_seqH (Mid : S → Hp → Prop) (h2 : ∀ σ G, Mid σ G → u D σ G) (h1 : (∀ σ G, Mid σ G → u D σ G) → t { D with nx := u D } σ H) : tSeq t u D σ H := h1 h2
theorem r_nx {f bk ct : S → Hp → Prop} {rt : VK} (h : f σ H) : Ends.nx { nx := f, rt := rt, bk := bk, ct := ct } σ H := h
theorem r_bk {f bk ct : S → Hp → Prop} {rt : VK} (h : bk σ H) : Ends.bk { nx := f, rt := rt, bk := bk, ct := ct } σ H := h
theorem r_ct {f bk ct : S → Hp → Prop} {rt : VK} (h : ct σ H) : Ends.ct { nx := f, rt := rt, bk := bk, ct := ct } σ H := h
theorem r_rt {f bk ct : S → Hp → Prop} {rt : VK} (h : rt v H) : Ends.rt { nx := f, rt := rt, bk := bk, ct := ct } v H := h
theorem r_iseqL {R : It → Hp → Prop} (h : te σ H fun x H1 => ∃ a, x = .ref a ∧ (∃ xs, SqL K H1 a xs) ∧ R (Itl K a) H1) : iSeqU K te σ H R := .inl h
theorem r_iseqT {R : It → Hp → Prop} (h : te σ H fun x H1 => ∃ a, x = .ref a ∧ (∃ xs, SqT K H1 a xs) ∧ R (Itt K a) H1) : iSeqU K te σ H R := .inr (.inl h)
theorem r_iseqS {R : It → Hp → Prop} (h : te σ H fun v H1 => ∃ x, v = .str x ∧ R (Its x) H1) : iSeqU K te σ H R := .inr (.inr h)
theorem r_yes {P : Bool → Hp → Prop} (h : P true H) : tYes σ H P := h
theorem r_rng1 {R : It → Hp → Prop} (h : tr σ H fun vs H1 => ∃ j : Int, vs = [.int j] ∧ -(2 ^ 62) ≤ j ∧ j < 2 ^ 62 ∧ R (Itr 0 j.toNat) H1) : iRng1 tr σ H R := h
theorem r_one {P : Int → Prop} (h1 : -(2 ^ 62) ≤ i ∧ i < 2 ^ 62) (h : P i) : ∃ j : Int, [V.int i] = [.int j] ∧ -(2 ^ 62) ≤ j ∧ j < 2 ^ 62 ∧ P j := ⟨i, rfl, h1.1, h1.2, h⟩
end
end Px

namespace Px
open PySem PySem.Spec PyProof.Rows L2
/-! ### how long what repr shows may be -/
structure Sm (n : Nat) (d : PyData) : Prop where
  sh : d.showable = true
  le : d.shown.length ≤ n
theorem Sm.mono {n m : Nat} {d : PyData} (h : Sm n d) (l : n ≤ m) : Sm m d := ⟨h.sh, Nat.le_trans h.le l⟩
theorem append_len (a b : Str) : (a ++ b).length = a.length + b.length := by
  show (a.cps ++ b.cps).size = a.cps.size + b.cps.size
  rw [Array.size_append]
theorem join_len (sep : Str) (n : Nat) : ∀ ts : List Str, (∀ t ∈ ts, t.length ≤ n) → (Str.join sep ts).length ≤ ts.length * (n + sep.length)
  | [], _ => by rw [join_nil]; exact Nat.zero_le _
  | [x], h => by
    rw [join_one]
    have := h x (by simp)
    simp
    omega
  | x :: y :: r, h => by
    rw [join_cons_cons, append_len, append_len]
    have h1 := h x (by simp)
    have h2 := join_len sep n (y :: r) fun t ht => h t (List.mem_cons_of_mem _ ht)
    have e : (x :: y :: r).length = (y :: r).length + 1 := rfl
    rw [e, Nat.add_mul, Nat.one_mul]
    omega
theorem lt_log {n : Nat} (h : n < 10 ^ 20) : n.log2 < 1920 := by
  by_cases z : n = 0
  · rw [z]; decide
  · exact (Nat.log2_lt z).mpr (Nat.lt_trans h (by decide))
theorem Sm.int {i : Int} (h : i.natAbs < 10 ^ 20) : Sm 21 (.int i) := by
  refine ⟨?_, ?_⟩
  · simp only [PyData.showable]; exact decide_eq_true (lt_log h)
  · simp only [PyData.shown]
    have := int_text_length_le10 (a := i) (k := 20) (by decide) h
    rw [PySem.ofString_length]
    exact this
theorem Sm.str {z : Str} (h : ∀ c ∈ z.cps.toList, c < 16 ^ 8) : Sm (10 * z.length + 2) (.str z) := by
  refine ⟨by simp only [PyData.showable], ?_⟩
  simp only [PyData.shown]
  exact PySem.StrLaws.reprText_len z h
theorem shownAll_le {n : Nat} : ∀ {ds : List PyData}, (∀ d ∈ ds, Sm n d) → PyData.showableAll ds = true ∧ (PyData.shownAll ds).length = ds.length ∧ ∀ t ∈ PyData.shownAll ds, t.length ≤ n
  | [], _ => ⟨by simp only [PyData.showableAll], by simp only [PyData.shownAll, List.length_nil], fun t h => by simp only [PyData.shownAll] at h; cases h⟩
  | d :: ds, h => by
    obtain ⟨h1, h2, h3⟩ := shownAll_le (ds := ds) fun e he => h e (List.mem_cons_of_mem _ he)
    have h0 := h d (by simp)
    refine ⟨?_, ?_, ?_⟩
    · simp only [PyData.showableAll, h0.sh, h1, Bool.and_self]
    · simp only [PyData.shownAll, List.length_cons, h2]
    · intro t ht
      simp only [PyData.shownAll] at ht
      rcases List.mem_cons.mp ht with e | e
      · rw [e]; exact h0.le
      · exact h3 t e
theorem Sm.list {n : Nat} {ds : List PyData} (h : ∀ d ∈ ds, Sm n d) : Sm (ds.length * (n + 2) + 2) (.list ds) := by
  obtain ⟨h1, h2, h3⟩ := shownAll_le h
  refine ⟨by simp only [PyData.showable]; exact h1, ?_⟩
  simp only [PyData.shown, PySem.listText_eq_join]
  have q := join_len (", " : Str) n _ h3
  rw [h2] at q
  rw [append_len, append_len]
  show 1 + _ + 1 ≤ _
  have e : (Str.ofString ", ").length = 2 := rfl
  rw [e] at q
  omega
theorem Sm.tuple {n : Nat} {ds : List PyData} (h : ∀ d ∈ ds, Sm n d) : Sm (ds.length * (n + 2) + 3) (.tuple ds) := by
  obtain ⟨h1, h2, h3⟩ := shownAll_le h
  refine ⟨by simp only [PyData.showable]; exact h1, ?_⟩
  simp only [PyData.shown, tupleText]
  have q := join_len (", " : Str) n _ h3
  rw [h2] at q
  rw [append_len, append_len]
  have e : (Str.ofString ", ").length = 2 := rfl
  rw [e] at q
  have e1 : (Str.ofString "(").length = 1 := rfl
  rw [e1]
  split
  · have e2 : (Str.ofString ",)").length = 2 := rfl
    rw [e2]; omega
  · have e2 : (Str.ofString ")").length = 1 := rfl
    rw [e2]; omega
theorem small_line {n : Nat} (h : n ≤ 16777216) : n ≤ sizeLine := by rw [sizeLine_eq]; exact h

/-! ### lists of ints and texts as one thing -/
/-- a text of these code points -/
def sOf (xs : List Int) : Str := ⟨(xs.map Int.toNat).toArray⟩
theorem sOf_len (xs : List Int) : (sOf xs).length = xs.length := by
  show (List.toArray (xs.map Int.toNat)).size = xs.length
  simp
theorem sOf_list (xs : List Int) : (sOf xs).cps.toList = xs.map Int.toNat := by simp [sOf]
theorem sOf_append (xs ys : List Int) : sOf xs ++ sOf ys = sOf (xs ++ ys) := by
  show (⟨_ ++ _⟩ : Str) = _
  unfold sOf
  simp
def Cps (xs : List Int) : Prop := ∀ x ∈ xs, 0 ≤ x ∧ x < 16 ^ 8
theorem toNat_inj : ∀ {xs ys : List Int}, Cps xs → Cps ys → xs.map Int.toNat = ys.map Int.toNat → xs = ys
  | [], [], _, _, _ => rfl
  | [], _ :: _, _, _, h => by simp at h
  | _ :: _, [], _, _, h => by simp at h
  | x :: xs, y :: ys, hx, hy, h => by
    simp only [List.map_cons, List.cons.injEq] at h
    have e := toNat_inj (fun z hz => hx z (List.mem_cons_of_mem _ hz)) (fun z hz => hy z (List.mem_cons_of_mem _ hz)) h.2
    have h1 := (hx x (by simp)).1
    have h2 := (hy y (by simp)).1
    have e2 : x = y := by omega
    rw [e, e2]
theorem sOf_inj {xs ys : List Int} (hx : Cps xs) (hy : Cps ys) : sOf xs = sOf ys ↔ xs = ys := by
  constructor
  · intro h
    have e := congrArg (fun z : Str => z.cps.toList) h
    simp only [sOf_list] at e
    exact toNat_inj hx hy e
  · intro h; rw [h]
/-- one item: an int, or a text of one sign -/
def itV (k : Bool) (x : Int) : V := if k = true then .str ⟨#[x.toNat]⟩ else .int x
/-- v is a list of these ints, or the text of these code points -/
def IsQ (H : Hp) (k : Bool) (v : V) (xs : List Int) : Prop := xs.length ≤ 100000 ∧ ((k = false ∧ ∃ a, v = .ref a ∧ H a = some (.lst (xs.map V.int))) ∨ (k = true ∧ v = .str (sOf xs) ∧ Cps xs))
/-- .. and, if it is a list, one that H does not know -/
def NewQ (H H' : Hp) (k : Bool) (v : V) (xs : List Int) : Prop := IsQ H' k v xs ∧ (∀ a, v = .ref a → H a = none)
theorem IsQ.same {H H' : Hp} {k : Bool} {v : V} {xs : List Int} (q : IsQ H k v xs) (e : Same H H') : IsQ H' k v xs := by
  obtain ⟨l, q⟩ := q
  refine ⟨l, ?_⟩
  rcases q with ⟨hk, a, hv, h⟩ | q
  · exact .inl ⟨hk, a, hv, e _ _ h⟩
  · exact .inr q
def dq (k : Bool) (xs : List Int) : PyData := if k = true then .str (sOf xs) else .list (xs.map PyData.int)
theorem dpAll_ints {K : PySem.W.Frag} {H : Hp} : ∀ xs : List Int, DpAll K H (xs.map V.int) (xs.map PyData.int)
  | [] => .nil
  | x :: xs => .cons (.int x) (dpAll_ints xs)
theorem IsQ.dp {K : PySem.W.Frag} {H : Hp} {k : Bool} {v : V} {xs : List Int} (q : IsQ H k v xs) : Dp K H v (dq k xs) := by
  obtain ⟨l, ⟨rfl, a, rfl, h⟩ | ⟨rfl, rfl, c⟩⟩ := q
  · exact .lst (ql h) (dpAll_ints xs)
  · exact .str _
theorem canLay_ints : ∀ xs : List Int, PyData.canLayAll0 (xs.map PyData.int) = true
  | [] => by simp only [List.map_nil, PyData.canLayAll0]
  | x :: xs => by simp only [List.map_cons, PyData.canLayAll0, PyData.canLay0, canLay_ints xs, Bool.and_self]
theorem depth_ints : ∀ xs : List Int, PyData.depthAll (xs.map PyData.int) = 0
  | [] => by simp only [List.map_nil, PyData.depthAll]
  | x :: xs => by simp only [List.map_cons, PyData.depthAll, PyData.depth, depth_ints xs, Nat.max_self]
theorem shaped_list_ints (xs : List Int) : SeqAt.shaped (.list (xs.map PyData.int)) = true := by
  unfold SeqAt.shaped
  simp only [PyData.canLay0, PyData.depth, canLay_ints, depth_ints]
  decide
theorem strOk_of {z : Str} (h : ∀ c ∈ z.cps.toList, c < 0x110000) : PyData.strOk z = true := by
  unfold PyData.strOk
  rw [Array.all_eq_true_iff_forall_mem]
  intro c hc
  exact decide_eq_true (h c (by simpa using hc))
theorem eqv_ints : ∀ xs ys : List Int, PyData.eqvAll (xs.map PyData.int) (ys.map PyData.int) = decide (xs = ys)
  | [], [] => by simp only [List.map_nil, PyData.eqvAll]; rfl
  | [], y :: ys => by simp only [List.map_nil, List.map_cons, PyData.eqvAll]; simp
  | x :: xs, [] => by simp only [List.map_nil, List.map_cons, PyData.eqvAll]; simp
  | x :: xs, y :: ys => by
    simp only [List.map_cons, PyData.eqvAll, PyData.eqv, eqv_ints xs ys]
    by_cases h : x = y <;> simp [h]

theorem dq_shaped {k : Bool} {xs : List Int} (h : k = true → ∀ x ∈ xs, x < 0x110000) : SeqAt.shaped (dq k xs) = true := by
  cases k with
  | false => exact shaped_list_ints xs
  | true =>
    unfold SeqAt.shaped dq
    rw [if_pos rfl]
    simp only [PyData.canLay0, PyData.depth]
    rw [strOk_of]
    · rfl
    · intro c hc
      rw [sOf_list] at hc
      obtain ⟨x, hx, rfl⟩ := List.mem_map.mp hc
      have := h rfl x hx
      omega
theorem dq_eqv {k : Bool} {xs ys : List Int} (hx : k = true → Cps xs) (hy : k = true → Cps ys) : PyData.eqv (dq k xs) (dq k ys) = decide (xs = ys) := by
  cases k with
  | false =>
    show PyData.eqv (.list _) (.list _) = _
    simp only [PyData.eqv, eqv_ints]
  | true =>
    show PyData.eqv (.str _) (.str _) = _
    simp only [PyData.eqv]
    have e := sOf_inj (hx rfl) (hy rfl)
    by_cases h : xs = ys
    · rw [h]; simp
    · rw [decide_eq_false h]
      exact beq_eq_false_iff_ne.mpr fun z => h (e.mp z)
theorem IsQ.len {H : Hp} {k : Bool} {v : V} {xs : List Int} (q : IsQ H k v xs) : xs.length ≤ 100000 := q.1
theorem IsQ.cps {H : Hp} {k : Bool} {v : V} {xs : List Int} (q : IsQ H k v xs) : k = true → Cps xs := fun e => by
  obtain ⟨_, ⟨hk, _⟩ | ⟨_, _, c⟩⟩ := q
  · rw [hk] at e; cases e
  · exact c
section
variable {K : PySem.W.Frag} {H : Hp} {Q : VK} {k : Bool} {v u : V} {xs ys : List Int} {i : Int}
theorem q_len (q : IsQ H k v xs) (h : Q (.int xs.length) H) : rLenU K [v] H Q := by
  obtain ⟨l, ⟨rfl, a, rfl, e⟩ | ⟨rfl, rfl, c⟩⟩ := q
  · have e2 : (xs.map V.int).length = xs.length := List.length_map ..
    exact r_lenUL (ql e) (by rw [e2]; exact h)
  · exact r_lenUS (by rw [sOf_len]; exact small_line (by omega)) (by rw [sOf_len]; exact h)
theorem q_ix {j : Nat} {x : Int} (q : IsQ H k v xs) (hj : i = (j : Int)) (hx : xs[j]? = some x) (h : Q (itV k x) H) : rIx K v (.int i) H Q := by
  subst hj
  obtain ⟨l, ⟨rfl, a, rfl, e⟩ | ⟨rfl, rfl, c⟩⟩ := q
  · exact r_ixL (ql e) (atI_nat (by rw [List.getElem?_map, hx]; rfl)) h
  · exact r_ixS (by rw [sOf_len]; exact small_line (by omega)) (atI_nat (by rw [sOf_list, List.getElem?_map, hx]; rfl)) h
theorem q_eqi {x y : Int} (hx : k = true → 0 ≤ x) (hy : k = true → 0 ≤ y) (h : Q (.bl (decide (x = y))) H) : rEqU K (itV k x) (itV k y) H Q := by
  cases k with
  | false => exact r_eqUI h
  | true =>
    refine r_eqUS ?_
    have e : decide ((⟨#[x.toNat]⟩ : Str) = ⟨#[y.toNat]⟩) = decide (x = y) := by
      have h1 := hx rfl
      have h2 := hy rfl
      by_cases z : x = y
      · subst z; simp
      · rw [decide_eq_false z]
        refine decide_eq_false fun w => z ?_
        simp at w
        omega
    rw [e]; exact h
theorem q_nei {x y : Int} (hx : k = true → 0 ≤ x) (hy : k = true → 0 ≤ y) (h : Q (.bl (!decide (x = y))) H) : rNeU K (itV k x) (itV k y) H Q := by
  cases k with
  | false => exact r_neUI h
  | true =>
    refine r_neUS ?_
    have e : decide ((⟨#[x.toNat]⟩ : Str) = ⟨#[y.toNat]⟩) = decide (x = y) := by
      have h1 := hx rfl
      have h2 := hy rfl
      by_cases z : x = y
      · subst z; simp
      · rw [decide_eq_false z]
        refine decide_eq_false fun w => z ?_
        simp at w
        omega
    rw [e]; exact h
theorem newq_list {H' : Hp} {p : Addr} (hp : H p = none) (l : xs.length ≤ 100000) (e : H' p = some (.lst (xs.map V.int))) : NewQ H H' false (.ref p) xs :=
  ⟨⟨l, .inl ⟨rfl, p, rfl, e⟩⟩, fun a ea => by cases ea; exact hp⟩
theorem newq_str {H' : Hp} (l : xs.length ≤ 100000) (c : Cps xs) : NewQ H H' true (.str (sOf xs)) xs := ⟨⟨l, .inr ⟨rfl, rfl, c⟩⟩, fun a ea => nomatch ea⟩
/-- a new list of ints at p, laid -/
theorem q_new {p : Addr} {vs : List V} (hp : H p = none) (l : xs.length ≤ 100000) (e : vs = xs.map V.int) : NewQ H (upd H p (.lst vs)) false (.ref p) xs := newq_list hp l (by rw [upd_same, e])
theorem Cps.sub {xs ys : List Int} (c : Cps xs) (h : ∀ x ∈ ys, x ∈ xs) : Cps ys := fun x hx => c x (h x hx)
/-- v[lo:hi] -/
theorem q_sl {lo hi : Option Int} {a b : Nat} (q : IsQ H k v xs) (ha : HT.sIx xs.length 0 lo = a) (hb : HT.sIx xs.length xs.length hi = b) (h : ∀ v' H', Same H H' → NewQ H H' k v' ((xs.drop a).take (b - a)) → Q v' H') : rSlU K v lo hi H Q := by
  have hl : ((xs.drop a).take (b - a)).length ≤ 100000 := by
    rw [List.length_take, List.length_drop]
    have := q.1
    omega
  obtain ⟨l, ⟨rfl, p, rfl, e⟩ | ⟨rfl, rfl, c⟩⟩ := q
  · refine r_slUL (ql e) fun p hp => h _ _ (same_new hp) (q_new hp hl ?_)
    unfold cutV
    rw [List.length_map, ha, hb, List.map_take, List.map_drop]
  · refine r_slUS (by rw [sOf_len]; exact small_line (by omega)) ?_
    have e : cutS (sOf xs) lo hi = sOf ((xs.drop a).take (b - a)) := by
      unfold cutS
      rw [sOf_len, ha, hb, sOf_list]
      unfold sOf
      rw [List.map_take, List.map_drop]
    rw [e]
    exact h _ _ (Same.refl H) (newq_str hl (c.sub fun x hx => List.mem_of_mem_drop (List.mem_of_mem_take hx)))
theorem q_rev {te : TE} {σ : S} (h : te σ H fun w H1 => IsQ H1 k w xs ∧ ∀ v' H', Same H1 H' → NewQ H1 H' k v' xs.reverse → Q v' H') : k = k → (∀ (P P' : VK), (∀ w H1, P w H1 → P' w H1) → te σ H P → te σ H P') → tRevU K te σ H Q := fun _ mono => by
  cases k with
  | false =>
    refine .inl (mono _ _ (fun w H1 ⟨q, h⟩ => ?_) h)
    obtain ⟨l, ⟨_, a, rfl, e⟩ | ⟨z, _⟩⟩ := q
    · exact ⟨a, _, rfl, ql e, fun p hp => h _ _ (same_new hp) (q_new hp (by rw [List.length_reverse]; exact l) (by rw [List.map_reverse]))⟩
    · cases z
  | true =>
    refine .inr (mono _ _ (fun w H1 ⟨q, h⟩ => ?_) h)
    obtain ⟨l, ⟨z, _⟩ | ⟨_, rfl, c⟩⟩ := q
    · cases z
    · refine ⟨sOf xs, rfl, by rw [sOf_len]; exact small_line (by omega), ?_⟩
      have e : revS (sOf xs) = sOf xs.reverse := by
        unfold revS
        rw [sOf_list]
        unfold sOf
        rw [List.map_reverse]
      rw [e]
      exact h _ _ (Same.refl H1) (newq_str (by rw [List.length_reverse]; exact l) (c.sub fun x hx => List.mem_reverse.mp hx))
theorem q_add (q1 : IsQ H k v xs) (q2 : IsQ H k u ys) (hl : xs.length + ys.length ≤ 100000) (h : ∀ v' H', Same H H' → NewQ H H' k v' (xs ++ ys) → Q v' H') : rAddU K v u H Q := by
  have hl' : (xs ++ ys).length ≤ 100000 := by rw [List.length_append]; exact hl
  obtain ⟨l1, ⟨rfl, a, rfl, e1⟩ | ⟨rfl, rfl, c1⟩⟩ := q1
  · obtain ⟨l2, ⟨_, b, rfl, e2⟩ | ⟨z, _⟩⟩ := q2
    · exact r_addUL e1 e2 (by rw [List.length_map, List.length_map]; exact small_line (by omega)) fun p hp => h _ _ (same_new hp) (q_new hp hl' (by rw [List.map_append]))
    · cases z
  · obtain ⟨l2, ⟨z, _⟩ | ⟨_, rfl, c2⟩⟩ := q2
    · cases z
    · refine r_addUS (by rw [sOf_len, sOf_len]; exact small_line (by omega)) ?_
      rw [sOf_append]
      exact h _ _ (Same.refl H) (newq_str hl' fun x hx => (List.mem_append.mp hx).elim (c1 x) (c2 x))
theorem q_eq (q1 : IsQ H k v xs) (q2 : IsQ H k u ys) (c1 : k = true → ∀ x ∈ xs, x < 0x110000) (c2 : k = true → ∀ x ∈ ys, x < 0x110000) (h : Q (.bl (decide (xs = ys))) H) : rEqU K v u H Q :=
  r_eqUD q1.dp q2.dp (dq_shaped c1) (dq_shaped c2) (by rw [dq_eqv q1.cps q2.cps]; exact h)
theorem q_ne (q1 : IsQ H k v xs) (q2 : IsQ H k u ys) (c1 : k = true → ∀ x ∈ xs, x < 0x110000) (c2 : k = true → ∀ x ∈ ys, x < 0x110000) (h : Q (.bl (!decide (xs = ys))) H) : rNeU K v u H Q :=
  r_neUD q1.dp q2.dp (dq_shaped c1) (dq_shaped c2) (by rw [dq_eqv q1.cps q2.cps]; exact h)
/-- for a, b in zip(v, u) -/
theorem q_zip {ta : TA} {R : It → Hp → Prop} {σ : S} (h : ta σ H fun vs H1 => ∃ v u, vs = [v, u] ∧ IsQ H1 k v xs ∧ IsQ H1 k u ys ∧ ∀ J : It, Walk J (min xs.length ys.length) (fun H => IsQ H k v xs ∧ IsQ H k u ys) (YPair (fun i => (xs[i]?).map (itV k)) fun i => (ys[i]?).map (itV k)) → R J H1)
    (mono : ∀ (P P' : List V → Hp → Prop), (∀ w H1, P w H1 → P' w H1) → ta σ H P → ta σ H P') : iZipU K ta σ H R := by
  cases k with
  | false =>
    refine .inl (mono _ _ (fun w H1 h => ?_) h)
    obtain ⟨v, u, rfl, q1, q2, g⟩ := h
    obtain ⟨l1, ⟨_, a, rfl, e1⟩ | ⟨z, _⟩⟩ := q1
    · obtain ⟨l2, ⟨_, b, rfl, e2⟩ | ⟨z, _⟩⟩ := q2
      · refine ⟨a, b, _, _, rfl, ql e1, ql e2, g _ ?_⟩
        have w := walk_zip (K := K) (a := a) (b := b) (xs := xs.map V.int) (ys := ys.map V.int) (n := min xs.length ys.length) (by rw [List.length_map, List.length_map])
        refine w.mono (fun H h => ?_) fun i H x H' _ _ y => ?_
        · obtain ⟨⟨_, ⟨_, a', ea, h1⟩ | ⟨z, _⟩⟩, ⟨_, ⟨_, b', eb, h2⟩ | ⟨z', _⟩⟩⟩ := h
          · cases ea; cases eb; exact ⟨ql h1, ql h2⟩
          · cases z'
          · cases z
          · cases z
        · obtain ⟨T, x1, x2, h1, h2, h3, h4, h5⟩ := y
          refine ⟨T, x1, x2, h1, h2, h3, ?_, ?_⟩
          · have z : (xs.map V.int)[i]? = some x1 := h4
            rw [List.getElem?_map] at z; exact z
          · have z : (ys.map V.int)[i]? = some x2 := h5
            rw [List.getElem?_map] at z; exact z
      · cases z
    · cases z
  | true =>
    refine .inr (mono _ _ (fun w H1 h => ?_) h)
    obtain ⟨v, u, rfl, q1, q2, g⟩ := h
    obtain ⟨l1, ⟨z, _⟩ | ⟨_, rfl, c1⟩⟩ := q1
    · cases z
    · obtain ⟨l2, ⟨z, _⟩ | ⟨_, rfl, c2⟩⟩ := q2
      · cases z
      · refine ⟨_, _, rfl, g _ ?_⟩
        have s1 : ∀ (zs : List Int) (i : Nat), sgn (sOf zs) i = (zs[i]?).map (itV true) := fun zs i => by
          unfold sgn
          rw [← Array.getElem?_toList, sOf_list, List.getElem?_map, Option.map_map]
          rfl
        have e1 : (sOf xs).cps.size = xs.length := sOf_len xs
        have e2 : (sOf ys).cps.size = ys.length := sOf_len ys
        rw [e1, e2]
        refine (walk_pairs (n := min xs.length ys.length) (f := sgn (sOf xs)) (g := sgn (sOf ys))).mono (fun _ _ => trivial) fun i H x H' _ _ y => ?_
        obtain ⟨T, x1, x2, h1, h2, h3, h4, h5⟩ := y
        exact ⟨T, x1, x2, h1, h2, h3, (s1 xs i).symm.trans h4, (s1 ys i).symm.trans h5⟩
end
end Px

namespace Px
open PySem PySem.Spec PyProof.Rows L2
/-! ### a law's end, by a contract that knows that no repr is under way -/
theorem hid_at {h : Heap} {H : Hp} {b : Addr} {o : Obj} (e : h.get? b = some o) (n : H b = none) : (hidT h H).get? b = some o := hidT_get e n
theorem law_core {P : Program} {w : World} {K : PySem.W.Frag} {mg mb : Str → Option Value} {k : Nat} {fa a : Addr} {fd : FuncData} {x : Str} {sp : Sp} {s₁ : Shared} {vs : List Value}
    (KX : K.In s₁.heap) (hns : s₁.heap.Ns mainGlobals mg) (hb : s₁.heap.Ns builtinsNs mb) (hbb : ∀ x : Str, x ≠ "__name__" → mb x = bootBuiltins x) (hlim : s₁.heap.NoLimit) (hg : s₁.gens = #[])
    (ha : s₁.heap.get? a = some { cls := .type "list", data := .seq vs.toArray }) (hr : Room k callerA)
    (F : ∀ base : Heap, K.In base → base.Ns mainGlobals mg → FnG P w K mg base CX0 k fa fd [x] sp) (hbind : ∀ (s : Shared) (u : Value), BindsTo s fd ⟨[u], []⟩ [(x, u)])
    (H : Hp) (hO : Only H) (hsp : sp [.ref a] H (fun v _ => v = .bl true) fun _ _ _ => False) (hok : HOk P w H s₁.heap) (hA : ∀ b, H b ≠ none → b = a) (hK : H a ≠ none → K.lookup a = none) :
    codeAny (model P w) callerA (.call (.ref fa) ⟨[.ref a], []⟩) (fun r s' => r = .ok (.ret (.bool true)) ∧ OldK s₁.heap s'.heap ∧ s'.os = s₁.os ∧ AllBare s'.gens) s₁ := by
  have only : ∀ {b : Addr} {o : Obj}, s₁.heap.get? b = some o → (b = a → False) → H b = none := fun {b o} e n => by
    cases q : H b with
    | none => rfl
    | some u => exact (n (hA b (by rw [q]; simp))).elim
  have noA : ∀ {b : Addr} {o : Obj} {es : Array DictEntry} {ep : Nat}, s₁.heap.get? b = some o → o.data = .dict es ep → H b = none := fun e d => only e fun z => by
    subst z
    rw [ha] at e
    cases e
    exact nomatch (show Data.seq vs.toArray _ = Data.dict _ _ from d)
  have nsK : ∀ {b : Addr} {m : Str → Option Value}, s₁.heap.Ns b m → (hidT s₁.heap H).Ns b m := fun ⟨o, es, ep, e, d, r⟩ => ⟨o, es, ep, hid_at e (noA e d), d, r⟩
  have hKb : K.In (hidT s₁.heap H) := fun b o e => hid_at (KX b o e) (by
    cases q : H b with
    | none => rfl
    | some u =>
      have e' : b = a := hA b (by rw [q]; simp)
      subst e'
      have z := hK (by rw [q]; simp)
      rw [z] at e
      cases e)
  have hM : Mod K mg (hidT s₁.heap H) := ⟨hKb, nsK hns, ⟨mb, nsK hb, hbb⟩, let ⟨mc, h1, h2⟩ := hlim; ⟨mc, nsK h1, h2⟩⟩
  have e0 : Env0 P w K mg (hidT s₁.heap H) callerA [] s₁ H := ⟨rfl, hM, fun b o e => of_hidT e, Nat.le_of_eq (hidT_size _ _), trivial, fun b hb => absurd (show b ∈ ([] : List Addr) from hb) (by simp), hok, .of_eq hg⟩
  have go := (F _ hKb (nsK hns)).run callerA [] s₁ H ⟨[.ref a], []⟩ [.ref a] [.ref a] _ _ rfl hr e0 (hbind s₁ (.ref a)) (.cons rfl .nil) hsp
  refine codeAny_mono go fun r s' h => ?_
  match r, h with
  | .error _, h => exact h.elim
  | .ok .next, h => exact h.elim
  | .ok .brk, h => exact h.elim
  | .ok .cont, h => exact h.elim
  | .ok (.ret u), ⟨v, H', os, bare, un, hok', r', q⟩ =>
    have q' : v = .bl true := q
    subst q'
    obtain rfl : u = Value.bool true := r'
    refine ⟨rfl, OldK.of_keep fun b o e => ?_, os, bare⟩
    rcases hO b with z | ⟨ob, xs, z⟩
    · exact un.keep b o e z (fun m => absurd (show b ∈ ([] : List Addr) from m) List.not_mem_nil) List.not_mem_nil
    · have h1 := (hok b _ z).1
      have h2 := (hok' b _ (un.frzs b ob _ z)).1
      rw [e] at h1
      cases h1
      exact h2
theorem law_go {P : Program} {w : World} {K : PySem.W.Frag} {mg mb : Str → Option Value} {k : Nat} {fa a : Addr} {fd : FuncData} {x : Str} {sp : Sp} {s₁ : Shared} {vs : List Value} {ns : List Int}
    (KX : K.In s₁.heap) (hns : s₁.heap.Ns mainGlobals mg) (hb : s₁.heap.Ns builtinsNs mb) (hbb : ∀ x : Str, x ≠ "__name__" → mb x = bootBuiltins x) (hlim : s₁.heap.NoLimit) (hg : s₁.gens = #[])
    (ha : s₁.heap.get? a = some { cls := .type "list", data := .seq vs.toArray }) (hi : IntsAre vs ns) (hl : ns.length ≤ sizeLine) (hr : Room k callerA)
    (F : ∀ base : Heap, K.In base → base.Ns mainGlobals mg → FnG P w K mg base CX0 k fa fd [x] sp) (hbind : ∀ (s : Shared) (u : Value), BindsTo s fd ⟨[u], []⟩ [(x, u)])
    (hsp : ∀ H : Hp, Only H → SqL K H a (ns.map V.int) → sp [.ref a] H (fun v _ => v = .bl true) fun _ _ _ => False) :
    codeAny (model P w) callerA (.call (.ref fa) ⟨[.ref a], []⟩) (fun r s' => r = .ok (.ret (.bool true)) ∧ OldK s₁.heap s'.heap ∧ s'.os = s₁.os ∧ AllBare s'.gens) s₁ := by
  have rv := vals_ints hi
  have core := law_core (mb := mb) KX hns hb hbb hlim hg ha hr F hbind
  cases hk : K.lookup a with
  | some o =>
    have e := KX a o hk
    rw [ha] at e
    cases e
    have hO : Only fun _ => none := fun _ => .inl rfl
    exact core _ hO (hsp _ hO (.inr ⟨_, vs.toArray, _, hk, rfl, rfl, rfl, by rw [List.size_toArray, hi.length]; exact hl, by simpa using rv⟩)) (fun b u z => nomatch (show (none : Option HO) = some u from z)) (fun b z => absurd rfl z) fun z => absurd rfl z
  | none =>
    let H0 : Hp := upd (fun _ => none) a (.frz { cls := .type "list", data := .seq vs.toArray } (.lst (ns.map V.int)))
    have at0 : ∀ b, b ≠ a → H0 b = none := fun b n => upd_ne n
    have hO : Only H0 := fun b => by
      by_cases q : b = a
      · subst q; exact .inr ⟨_, _, upd_same⟩
      · exact .inl (at0 b q)
    refine core H0 hO (hsp _ hO (.inl (.inr ⟨_, upd_same⟩))) (fun b u z => ?_) (fun b z => ?_) fun _ => hk
    · by_cases q : b = a
      · subst q
        have z' : HO.frz _ _ = u := Option.some.inj (upd_same.symm.trans z)
        subst z'
        exact ⟨ha, by rw [List.length_map]; exact hl, vs, _, rv, ha⟩
      · exact nomatch ((at0 b q).symm.trans z)
    · by_cases q : b = a
      · exact q
      · exact absurd (at0 b q) z
theorem walk_G {l : PySem.W.OpenLaw} {n k : Nat} {q : Program} {loose : List Str} {XP : (Str → Option Value) → Heap → Prop} {YP : World → Heap → Prop} {d : DefRec} {x : Str}
    (hn : l.most = some n) (hn2 : n ≤ sizeLine) (hdf : d.params.defaults = []) (hr : Room k callerA)
    (F : ∀ (w : World) (mg : Str → Option Value) (fa : Addr) (h : Heap), YP w h → h.Ns mainGlobals mg → mg d.name = some (.ref fa) →
      ∃ (K : PySem.W.Frag) (fd : FuncData) (sp : Sp), K.In h ∧ (∀ (s : Shared) (u : Value), BindsTo s fd ⟨[u], []⟩ [(x, u)]) ∧
        (∀ (H : Hp) (a : Addr) (ns : List Int), ns.length ≤ n → Only H → SqL K H a (ns.map V.int) → sp [.ref a] H (fun v _ => v = .bl true) fun _ _ _ => False) ∧
        ∀ base : Heap, K.In base → base.Ns mainGlobals mg → FnG l.prog w K mg base CX0 k fa fd [x] sp) :
    PySem.W.WalkO q loose XP YP l.row.toRowW d [] (fun f vs => PySem.call f vs) := by
  refine Att.attach_call hn hdf fun w s₀ s₁ mg mb fa o pm cd doc a vs ns G Y ho hd hcd hmg hobj hints hlen hg => ?_
  obtain ⟨K, fd, sp, KX, hb, hsp, hF⟩ := F w mg fa _ Y G.T.g hmg
  exact law_go KX G.T.g G.T.b G.T.builtins G.T.nolimit hg hobj hints (Nat.le_trans hlen hn2) hr hF hb fun H hO hS => hsp H a ns hlen hO hS
end Px

namespace Px
open PySem PySem.Spec PyProof.Rows L2 PySem.W
/-- n's last eight binary digits, as signs -/
def bin8 (n : Nat) : Str := ⟨#[48 + n / 128 % 2, 48 + n / 64 % 2, 48 + n / 32 % 2, 48 + n / 16 % 2, 48 + n / 8 % 2, 48 + n / 4 % 2, 48 + n / 2 % 2, 48 + n % 2]⟩
theorem fmt08b {n : Nat} (hn : n < 256) (t u : Tok) : Meets (Builtin.«int.__format__» ⟨[.int (n : Int) t, .str (PySem.Str.ofString "08b") u], []⟩) (fun _ R s => ∀ t' k, R (.ok (.ret (.str (bin8 n) t'))) { s with toks := k }) := by
  apply KPc.meets_of
  intro _ _ _ _ _ _ hq
  unfold Builtin.«int.__format__»
  refine wpAny_bind (wpAny_of_eq (a := (_, _)) rfl ?_)
  refine wpAny_bind (wpAny_of_eq (a := _) rfl ?_)
  kxf_if
  refine wpAny_bind (wpAny_typeNameOf (T := "str") (typeIs_str _ _ _) (by decide) fun _ => ?_)
  refine wpAny_bind (wpAny_of_eq (a := some _) rfl ?_)
  kxf_if
  kxf_if
  refine wpAny_bind (wpAny_typeNameOfCut_int ?_)
  (repeat kxf_if)
  refine KXf.ret_text ?he ?hl hq
  · clear hq
    revert n
    decide +kernel
  · clear hq
    revert n
    decide +kernel
def hexSign (d : Nat) : Nat := if d < 10 then 48 + d else 55 + d
/-- two hexadecimal digits, as signs -/
def hex2 (n : Nat) : Str := ⟨#[hexSign (n / 16), hexSign (n % 16)]⟩
theorem fmt02X {n : Nat} (hn : n < 256) (t u : Tok) : Meets (Builtin.«int.__format__» ⟨[.int (n : Int) t, .str (PySem.Str.ofString "02X") u], []⟩) (fun _ R s => ∀ t' k, R (.ok (.ret (.str (hex2 n) t'))) { s with toks := k }) := by
  apply KPc.meets_of
  intro _ _ _ _ _ _ hq
  unfold Builtin.«int.__format__»
  refine wpAny_bind (wpAny_of_eq (a := (_, _)) rfl ?_)
  refine wpAny_bind (wpAny_of_eq (a := _) rfl ?_)
  kxf_if
  refine wpAny_bind (wpAny_typeNameOf (T := "str") (typeIs_str _ _ _) (by decide) fun _ => ?_)
  refine wpAny_bind (wpAny_of_eq (a := some _) rfl ?_)
  kxf_if
  kxf_if
  refine wpAny_bind (wpAny_typeNameOfCut_int ?_)
  (repeat kxf_if)
  refine KXf.ret_text ?he ?hl hq
  · clear hq
    revert n
    decide +kernel
  · clear hq
    revert n
    decide +kernel
/-- {e:spec}, e a number below 256 -/
def tFmtB (g : Nat → Str) (te : TE) : TE := fun σ H Q => te σ H fun x H1 => ∃ n : Nat, x = .int n ∧ n < 256 ∧ Q (.str (g n)) H1
section
variable {X : Cx}
theorem pe_fmtB {e : Expr} {te : TE} {pos p1 p2 : Pos} {k : Nat} {spec : Str} {g : Nat → Str} (he : PE X e te) (hne : (spec.length == 0) = false) (hsz : spec.length ≤ sizeLine)
    (hg : ∀ n : Nat, n < 256 → ∀ t u, Meets (Builtin.«int.__format__» ⟨[.int (n : Int) t, .str spec u], []⟩) (fun _ R s => ∀ t' k, R (.ok (.ret (.str (g n) t'))) { s with toks := k })) :
    PE X (.FormattedValue e (-1) (some (.JoinedStr [.Constant (.str spec) k p1] p2)) pos) (tFmtB g te) := by
  refine ⟨fun pins s σ H Q I h => ?_⟩
  refine wpAny_FormattedValue_spec (thn (he.run pins s σ H _ I h) fun v s1 hv => ?_)
  obtain ⟨x, H1, I1, r1, n, rfl, hn, q⟩ := hv
  obtain ⟨t, rfl⟩ := r1
  refine wpAny_JoinedStr_one ?_
  refine thn ((pe_str (X := X) (x := spec)).run pins s1 σ H1 _ I1 (show tC (.str spec) σ H1 fun y H2 => y = .str spec ∧ H2 = H1 from ⟨rfl, rfl⟩)) fun r s2 h2 => ?_
  obtain ⟨y, H2, I2, r2, rfl, rfl⟩ := h2
  obtain ⟨tk, rfl⟩ := r2
  refine ⟨spec, tk, rfl, ?_⟩
  exact KXf.field_int rfl hne hsz (hg n hn t) fun t' k => ⟨.str (g n), H2, I2.tok k, ⟨_, rfl⟩, q⟩
end
end Px

namespace Px
open PySem PySem.Spec PyProof.Rows L2
/-! ### int(t, 2) -/
namespace Bn
open PySem.NumText PySem.Calls
def IsBit (c : Nat) : Prop := c = 48 ∨ c = 49
def binNum (l : List Nat) : Nat := l.foldl (fun a c => a * 2 + (c - 48)) 0
theorem toHex {c : Nat} (h : IsBit c) : L2.Hx.IsHex c := .inl (by rcases h with rfl | rfl <;> exact ⟨by decide, by decide⟩)
theorem dig {c : Nat} (h : IsBit c) : digit? c = some (c - 48) := by rcases h with rfl | rfl <;> rfl
theorem step2 {ds : Array Nat} {b : Bool} {c : Nat} (h : IsBit c) : PySem.NumText.step 2 (ds, b) c = some (ds.push (c - 48), true) := by rcases h with rfl | rfl <;> rfl
theorem fold2 : ∀ (cs : List Nat) (ds : Array Nat), (∀ c ∈ cs, IsBit c) → cs.foldlM (PySem.NumText.step 2) (ds, true) = some (cs.foldl (fun acc c => acc.push (c - 48)) ds, true)
  | [], _, _ => rfl
  | c :: cs, ds, h => by
    rw [List.foldlM_cons, step2 (h c (List.mem_cons_self ..))]
    exact fold2 cs (ds.push (c - 48)) fun d hd => h d (List.mem_cons_of_mem _ hd)
theorem digits2 {cs : List Nat} (h : ∀ c ∈ cs, IsBit c) (hne : cs ≠ []) : digits? 2 cs = some (cs.foldl (fun acc c => acc.push (c - 48)) #[]) := by
  match cs, hne with
  | c :: cs, _ =>
    unfold digits?
    rw [List.foldlM_cons, step2 (h c (List.mem_cons_self ..))]
    show (List.foldlM (PySem.NumText.step 2) ((#[] : Array Nat).push (c - 48), true) cs).bind _ = _
    rw [fold2 cs _ fun d hd => h d (List.mem_cons_of_mem _ hd)]
    rfl
theorem push2 : ∀ (cs : List Nat) (ds : Array Nat), (cs.foldl (fun acc c => acc.push (c - 48)) ds).foldl (fun acc d => acc * 2 + d) 0 = cs.foldl (fun a c => a * 2 + (c - 48)) (ds.foldl (fun acc d => acc * 2 + d) 0)
  | [], _ => rfl
  | c :: cs, ds => by
    rw [List.foldl_cons, push2 cs (ds.push (c - 48)), List.foldl_cons]
    simp
theorem based2 {cs : List Nat} (h : ∀ c ∈ cs, IsBit c) : based 2 cs = (2, false, cs) := by
  match cs, h with
  | [], _ => rfl
  | [a], h => rcases h a (by simp) with rfl | rfl <;> rfl
  | a :: c :: r, h =>
    rcases h a (by simp) with rfl | rfl <;> rcases h c (by simp) with rfl | rfl <;> rfl
theorem read2 {cs : List Nat} (h : ∀ c ∈ cs, IsBit c) (hne : cs ≠ []) : (int_private% "readNumeral") 0 2 cs = (int_private% "Numeral.value") ((binNum cs : Nat) : Int) := by
  have hx : ∀ c ∈ cs, L2.Hx.IsHex c := fun c hc => toHex (h c hc)
  refine (readNumeral_eq 0 2 cs).trans ?_
  rw [L2.Hx.dropB hx, L2.Hx.signH hx]
  show judge 0 false (based 2 cs).1 (based 2 cs).2.1 (digits? (based 2 cs).1 (((based 2 cs).2.2.reverse.dropWhile blank).reverse)) = _
  rw [based2 h]
  show judge 0 false 2 false (digits? 2 ((cs.reverse.dropWhile blank).reverse)) = _
  rw [L2.Hx.dropB (cs := cs.reverse) fun c hc => hx c (List.mem_reverse.mp hc), List.reverse_reverse, digits2 h hne]
  show (int_private% "Numeral.value") (((cs.foldl (fun acc c => acc.push (c - 48)) (#[] : Array Nat)).foldl (fun acc d => acc * 2 + d) 0 : Nat) : Int) = _
  rw [push2]
  rfl
set_option maxHeartbeats 4000000 in
theorem gives2 {x : PySem.Str} {u t : Tok} (hl : x.length ≤ 640) (h : ∀ c ∈ x.cps.toList, IsBit c) (hne : x.cps.toList ≠ []) :
    Gives (Builtin.«int.__new__» ⟨[.type "int", .str x u, .int 2 t], []⟩) (.int ((binNum x.cps.toList : Nat) : Int)) :=
  .of_wp fun M A E s Q hQ => by
    obtain ⟨hp, g, d, tk, os⟩ := s
    have c1 := F.conv_sub_int
    have c2 := F.madeHere_int
    have c3 : typeOf (.str x u) = pure (.type "str") := rfl
    obtain ⟨e1, e2⟩ := L2.Hx.seen_hex fun c hc => toHex (h c hc)
    have key : L2.Hx.Hid ((numSeenOf x).length ≤ 640 ∧ (int_private% "readNumeral") 0 2 (numSeenOf x) = (int_private% "Numeral.value") ((binNum x.cps.toList : Nat) : Int) ∧ ((numSeenOf x).length == (numTextOf x).length) = true) := by
      refine ⟨?_, ?_, ?_⟩
      · rw [e2, Array.length_toList]; exact hl
      · rw [e2]; exact read2 h hne
      · rw [e1, e2]; exact beq_self_eq_true _
    clear e1 e2 hl hne h
    repeat (any_goals (first
      | assumption
      | ((with_reducible show wpAny _ _ ((int_private% "intFromText") _ _ _) _ _ _);
          refine L2.Hx.wp_textB key.out.1 key.out.2.1 key.out.2.2 ?_)
      | wp_step))
    all_goals first | exact ⟨_, rfl, hQ⟩ | skip
end Bn
/-- int(t, 2) -/
def rIntBin : List V → Hp → VK → Prop := fun xs H Q => ∃ x : Str, xs = [.str x, .int 2] ∧ x.cps.toList ≠ [] ∧ x.length ≤ 640 ∧ (∀ c ∈ x.cps.toList, Bn.IsBit c) ∧ Q (.int ((Bn.binNum x.cps.toList : Nat) : Int)) H
theorem call_int_bin {X : Cx} : CallR X (.type "int") rIntBin := by
  intro pins s σ H xs us Q I r h
  obtain ⟨x, rfl, hne, hl, hx, q⟩ := h
  obtain ⟨u, w', rfl, r1, r2⟩ := vals2 r
  obtain ⟨t1, rfl⟩ := r1
  obtain ⟨t2, rfl⟩ := r2
  exact callType_new F.called_int F.newNe_int (L2.Hx.typeCall_int_2 _ _) (L2.Hx.newCall_int_2 _ _) (fun obj => F.initArgs_range_2 obj _ _) F.entry_int_new (Bn.gives2 hl hx hne).meets
    (show (Made.int ((Bn.binNum x.cps.toList : Nat) : Int)).post _ s from ⟨rfl, ⟨.int ((Bn.binNum x.cps.toList : Nat) : Int), H, I.tok _, ⟨_, rfl⟩, q⟩⟩)
end Px

namespace Px
open PySem PySem.Spec PyProof.Rows L2 PpSet
/-! ### sets of texts; len({x for x in text}) -/
/-- the members so far, and one more -/
def putT (l : List Str) (k : Str) : List Str := if k ∈ l then l else k :: l
def SetT (P : Program) (w : World) (h : Heap) (a : Addr) (l : List Str) : Prop := h.SetOf (strKind P w) a (fun k => decide (k ∈ l)) l.length
theorem setOf_at {P : Program} {w : World} {h h' : Heap} {a : Addr} {S : Str → Bool} {n : Nat} (R : h.SetOf (strKind P w) a S n) (k : ∀ o, h.get? a = some o → h'.get? a = some o) : h'.SetOf (strKind P w) a S n := by
  obtain ⟨o, es, ep, t, ho, r⟩ := R
  exact ⟨o, es, ep, t, k o ho, r⟩
theorem setOf_congr {P : Program} {w : World} {h : Heap} {a : Addr} {S S' : Str → Bool} {n n' : Nat} (R : h.SetOf (strKind P w) a S n) (e : ∀ k, S' k = S k) (en : n' = n) : h.SetOf (strKind P w) a S' n' := by
  have z : S' = S := funext e
  rw [z, en]
  exact R
def SetTO (P : Program) (w : World) (a : Addr) (l : List Str) : HO := .ext fun h => SetT P w h a l
theorem setTO_new {P : Program} {w : World} {H : Hp} {h : Heap} {a : Addr} {l : List Str} (R : SetT P w h a l) : ObjOk P w H h a (SetTO P w a l) := by
  have R' := R
  obtain ⟨o, _, _, _, ho, _⟩ := R'
  exact ⟨R, ⟨o, ho⟩, fun h1 h2 p k => setOf_at p k⟩
theorem setT_fresh {h : Heap} (P : Program) (w : World) (led : Bool) : SetT P w (h.push { cls := .type "set", dict := none, data := .set #[] 0 (.fresh 0 0 led) }) h.objs.size [] :=
  setOf_congr ((setObjOf_fresh (knd := strKind P w) led).setOf (Heap.get?_push_size _ rfl) (by decide)) (fun k => by simp) rfl
section
variable {X : Cx} {pins : List (Addr × Obj)} {σ : L2.St} {H : Hp} {s : Shared}
theorem setTO_get {a : Addr} {l : List Str} (I : Inv X pins σ H s) (ha : H a = some (SetTO X.prog X.w a l)) : SetT X.prog X.w s.heap a l := (I.hok a _ ha).1
theorem addT_ok {E : Value → Shared → Prop} {D : Addr} {l : List Str} {y : Str} {t : Tok} {Q : Value → Shared → Prop} (I : Inv X pins σ H s) (hD : H D = some (SetTO X.prog X.w D l)) (room : l.length + 1 < scanBound)
    (k : ∀ s', Inv X pins σ (upd H D (SetTO X.prog X.w D (putT l y))) s' → Q .none s') : wpAny (model X.prog X.w) X.A (call (.builtin "set.add") [.ref D, .str y t]) Q E s := by
  refine call_set_add (knd := strKind X.prog X.w) (k := y) (strKind_is _ _ _ _) rfl (setTO_get I hD) room fun h' sb new => ?_
  have new' : SetT X.prog X.w h' D (putT l y) := by
    refine setOf_congr new (fun j => ?_) ?_
    · unfold putT
      split
      · rename_i m
        by_cases e : j = y
        · subst e; simp [m]
        · simp [e]
      · by_cases e : j = y <;> simp [e]
    · unfold putT
      by_cases m : y ∈ l
      · rw [if_pos m, if_pos (decide_eq_true m)]
      · rw [if_neg m, if_neg (by simpa using m)]
        rfl
  have there : ∃ u, h'.get? D = some u := by
    obtain ⟨o, _, _, _, ho, _⟩ := new'
    exact ⟨o, ho⟩
  exact k _ (I.write (e := D) (t' := s.toks + 1) (by rw [hD]; trivial) (.inl rfl) (fun b u nb hu => (sb.2 b nb).trans hu) there (setTO_new new'))
end
section
variable {X : Cx}
/-- {elt for target in iter if ..}, elt a text: D the new set -/
def tScT (P : Program) (w : World) (wi : TI) (g : TG) (tt : TT) (te : TE) (vs : List Nat) : TE := fun σ H Q => wi σ H fun J H1 => ∀ D, H1 D = none →
  ∃ W : Nat → Nat → Hp → Prop, (∃ m, W 0 m (upd H1 D (SetTO P w D []))) ∧ ∀ i m H, W i m H → (J.stop i H ∧ Q (.ref D) H) ∨
    (J.go i H ∧ ∃ Nx : Hp → Prop, (∀ H', Nx H' → ∃ m', m' < m ∧ W (i + 1) m' H') ∧ ∀ x H', J.yld i H x H' →
      g x (wipe σ vs) H' fun σ2 H2 => wipe σ2 vs = wipe σ vs ∧ tt σ2 H2 fun b H3 =>
        if b = true then te σ2 H3 fun y H4 => ∃ (z : Str) (l : List Str), y = .str z ∧ H4 D = some (SetTO P w D l) ∧ l.length + 1 < scanBound ∧ Nx (upd H4 D (SetTO P w D (putT l z))) else Nx H3)
abbrev BlkAll (X : Cx) (scope : Scope) (p : Cx → Prop) : Prop := ∀ (s : Shared) (H : Hp) (C : Addr) (cl : List (PySem.Str × Addr)) (fp : List Addr), p (X.blk s H scope (compEnvC scope cl C X.env) fp)
theorem pe_scT {elt tg iter : Expr} {ifs : List Expr} {scope : Scope} {own : List (PySem.Str × Nat)} {pos : Pos} {wi : TI} {g : TG} {tt : TT} {te : TE} (hc : X.calm = true) (hN : X.N.Nodup) (hi : PI X tg iter wi)
    (ok : BlkOk X.N X.env.scope scope own) (hg : BlkAll X scope fun Y => PG Y tg g) (ht : BlkAll X scope fun Y => PTs Y ifs tt) (he : BlkAll X scope fun Y => PE Y elt te) (hs : ∀ x, foldedSetIterable iter X.env x = pure x := by intro _; rfl) :
    PE X (.SetComp elt [⟨tg, iter, ifs, 0⟩] scope pos) (tScT X.prog X.w wi g tt te (own.map (·.2))) := by
  refine ⟨fun pins s σ H Q I h => ?_⟩
  rw [eval_SetComp]
  have closed : ∀ y ∈ scope.names, y.2 = .free → ∃ c, X.env.cells.lookup y.1 = some c := by
    intro y hy e
    exact (ok.free y hy e).elim (fun k => I.ok.has _ (.inl k)) fun k => I.ok.has _ (.inr k)
  refine wpAny_comprehension_free (use := none) rfl hs (closure_ok closed) ok.kind (fun y hy e => by rw [ok.uniq y hy, e]) ?_
  refine thn (hi.run pins s σ H _ I h) fun _ s1 hx => thn hx ?_
  rintro _ s2 ⟨it, fp, tn, J, H2, rfl, I2, T, st2, f2, q⟩
  refine newSet_ok (newEnv_comp ?_)
  generalize hO : ({ cls := .type "set", dict := none, data := .set #[] 0 (.fresh 0 0 (!X.w.params.followText "set-order")) } : Obj) = O
  generalize hD : s2.heap.objs.size = D
  obtain ⟨W, ⟨m0, w0⟩, turn⟩ := q D (I2.hok.fresh (Nat.le_of_eq hD))
  have hO0 : ∀ {b : Addr} {o : Obj}, s2.heap.get? b = some o → (s2.heap.push O).get? b = some o := fun e => Heap.get?_push_of_some _ e
  generalize hH3 : upd H2 D (SetTO X.prog X.w D []) = H3 at w0
  generalize hs3 : ({ s2 with heap := s2.heap.push O } : Shared) = s3
  have hp3 : s3.heap = s2.heap.push O := by rw [← hs3]
  have I3 : Inv X pins σ H3 s3 := by
    subst hs3 hH3 hD hO
    exact I2.laid (t' := s2.toks) (fun b o e => Heap.get?_push_of_some _ e) (Nat.le_refl _) (setTO_new (setT_fresh X.prog X.w _))
  have low : ∀ b ∈ fp, b < D := fun b hb => by
    obtain ⟨o, e, _⟩ := T.obj _ _ st2 b hb
    rw [← hD]
    exact Heap.lt_size e
  have f3 : ∀ b ∈ fp, FpOk X pins H3 b ∧ b < s3.heap.objs.size := fun b hb => by
    have hlt := low b hb
    refine ⟨⟨?_, (f2 b hb).2⟩, ?_⟩
    · rw [← hH3, upd_ne (Nat.ne_of_lt hlt)]
      exact (f2 b hb).1
    · rw [hp3, Heap.size_push, hD]
      exact Nat.lt_succ_of_lt hlt
  have st3 : tn 0 s3.heap := T.keep _ _ _ st2 fun b _ o e => by rw [hp3]; exact hO0 e
  have I4 := block_start I3 ok hN f3
  have pg := hg s3 H3 s3.heap.objs.size (cellsFrom (s3.heap.objs.size + 1) scope.names (cloFrom X.env.cells scope.names [])) fp
  have pt := ht s3 H3 s3.heap.objs.size (cellsFrom (s3.heap.objs.size + 1) scope.names (cloFrom X.env.cells scope.names [])) fp
  have pe := he s3 H3 s3.heap.objs.size (cellsFrom (s3.heap.objs.size + 1) scope.names (cloFrom X.env.cells scope.names [])) fp
  show codeAny _ _ (.compStart (.SetComp elt [⟨tg, iter, ifs, 0⟩] scope pos) 0 (.ref it) (.ref D) (compEnvC scope (cellsFrom (s3.heap.objs.size + 1) scope.names (cloFrom X.env.cells scope.names [])) s3.heap.objs.size X.env))
    (compPost (model X.prog X.w) X.A X.xe none _ (.ref D) s3.heap.objs.size) { s3 with heap := pushCells (s3.heap.push { cls := .type "dict", data := .dict #[] }) scope.names }
  have cL : (compEnvC scope (cellsFrom (s3.heap.objs.size + 1) scope.names (cloFrom X.env.cells scope.names [])) s3.heap.objs.size X.env).locals = s3.heap.objs.size := rfl
  generalize compEnvC scope (cellsFrom (s3.heap.objs.size + 1) scope.names (cloFrom X.env.cells scope.names [])) s3.heap.objs.size X.env = ce at I4 pg pt pe cL ⊢
  have st4 : tn 0 (pushCells (s3.heap.push { cls := .type "dict", data := .dict #[] }) scope.names) := T.keep _ _ _ st3 fun b _ o e => pushCells_keeps _ _ _ _ (Heap.get?_push_of_some _ e)
  generalize hs4 : ({ s3 with heap := pushCells (s3.heap.push { cls := .type "dict", data := .dict #[] }) scope.names } : Shared) = s4 at I4 ⊢
  replace st4 : tn 0 s4.heap := by rw [← hs4]; exact st4
  have still : ∀ {σ' : L2.St} {H' : Hp} {s' : Shared}, Inv (X.blk s3 H3 scope ce fp) [] σ' H' s' → (∀ b ∈ fp, H' b = none) → ∀ b ∈ fp, FpOk (X.blk s3 H3 scope ce fp) [] H' b := by
    intro σ' H' s' I' hn b hb
    exact ⟨hn b hb, (I'.ok.exf b hb).1, I'.ok.exfs b hb, .inl hb, fun x c e => (I'.ok.exf b hb).2 x c e, fun p hp => absurd (show p ∈ ([] : List (Addr × Obj)) ++ [] from hp) (by simp)⟩
  refine codeAny_compStart_set ?_ (T.self X.A 0 _ _ _ st4 ?_)
  all_goals
    refine compLoopS_any (fun n s' => ∃ i H', Inv (X.blk s3 H3 scope ce fp) [] (wipe σ (own.map (·.2))) H' s' ∧ tn i s'.heap ∧ (∀ b ∈ fp, H' b = none) ∧ W i n H') ?_ m0 ⟨0, H3, I4, st4, fun b hb => (f3 b hb).1.1, w0⟩
    rintro n s5 ⟨i, H5, I5, st5, n5, w5⟩
    rcases turn i n H5 w5 with ⟨stop, qq⟩ | ⟨go, Nx, hNx, step⟩
    · refine thnF (T.done (X.blk s3 H3 scope ce fp) rfl rfl rfl hc i [] s5 _ H5 (fun _ _ => False) I5 (still I5 n5) st5 stop) ?_
      rintro r s6 ⟨rfl, I6⟩
      have I7 : Inv X pins σ H5 s6 := I3.call' (ch := fp) I6.os I6.base I6.hok I6.bare fun b hb =>
        let z := (f3 b hb).1
        ⟨z.2.2.2.1, z.2.1, z.2.2.2.2.1, z.2.2.2.2.2⟩
      have nC : H5 s3.heap.objs.size = none := by
        rw [← cL]
        exact I6.free
      obtain ⟨m, hn, _⟩ := I6.loc
      replace hn : s6.heap.Ns s3.heap.objs.size m := by rw [← cL]; exact hn
      obtain ⟨f0, f1, f2', f3', f4, f5⟩ := I3.fpOk (Nat.le_refl _) nC
      exact ⟨m, hn, fun h'' sb => ⟨.ref D, H5, I7.turned (t' := s6.toks) (fun b o hb e => (sb.2 b hb).trans e) f0 f1 f3' f4 f5, rfl, qq⟩⟩
    · refine thnF (T.item (X.blk s3 H3 scope ce fp) rfl rfl rfl hc i [] s5 _ H5 (fun _ _ => False) I5 (still I5 n5) st5 go) ?_
      rintro r s6 ⟨u, rfl, h6⟩
      refine thnF h6 ?_
      rintro _ s7 ⟨x, H7, I7, r7, y7, st7, n7⟩
      refine thnF (pg.run _ s7 _ H7 x u _ (I7.pinned (still I7 n7) (T.obj _ _ st7)) r7 (step x H7 y7)) ?_
      rintro _ s8 ⟨σ8, H8, I8, hw8, q8⟩
      refine thnF (pt.run _ s8 σ8 H8 _ I8 q8) ?_
      rintro b s9 ⟨H9, I9, q9⟩
      have fin : ∀ {s' : Shared} {H' : Hp}, Inv (X.blk s3 H3 scope ce fp) ([] ++ pinsAt fp s7.heap) σ8 H' s' → Nx H' →
          ∃ m, m < n ∧ ∃ i H', Inv (X.blk s3 H3 scope ce fp) [] (wipe σ (own.map (·.2))) H' s' ∧ tn i s'.heap ∧ (∀ b ∈ fp, H' b = none) ∧ W i m H' := by
        intro s' H' I' nx
        obtain ⟨m', hm, w'⟩ := hNx H' nx
        have kept : ∀ b ∈ fp, ∀ o, s7.heap.get? b = some o → s'.heap.get? b = some o ∧ H' b = none := by
          intro b hb o e
          have z := I'.pin (b, o) (List.mem_append_right _ (List.mem_append_right _ (mem_pinsAt hb e)))
          exact ⟨z.1, z.2.1⟩
        refine ⟨m', hm, i + 1, H', (I'.unpinned (pins := [])).weak (by rw [← hw8, wipe_length]) (fun j v e => ?_), T.keep _ _ _ st7 fun b hb o e => (kept b hb o e).1, ?_, w'⟩
        · rw [← hw8] at e
          exact (wipe_some e).1
        · intro b hb
          obtain ⟨o, e, _⟩ := T.obj _ _ st7 b hb
          exact (kept b hb o e).2
      cases b with
      | false => exact fin I9 q9
      | true =>
        refine thnF (pe.run _ s9 σ8 H9 _ I9 q9) ?_
        rintro z s10 ⟨yv, H10, I10, r10, zz, l0, rfl, hD10, room, nx⟩
        obtain ⟨tz, rfl⟩ := r10
        exact addT_ok (X := X.blk s3 H3 scope ce fp) I10 hD10 room fun s11 I11 => fin I11 nx
def rLenT (P : Program) (w : World) : List V → Hp → VK → Prop := fun xs H Q => ∃ a l, xs = [.ref a] ∧ H a = some (SetTO P w a l) ∧ Q (.int (l.length : Nat)) H
theorem call_lenT : CallR X (.builtin "len") (rLenT X.prog X.w) := by
  intro pins s σ H xs us Q I r h
  obtain ⟨a, l, rfl, ha, q⟩ := h
  cases r with
  | cons r0 r1 =>
    cases r1
    cases r0
    obtain ⟨o, es, ep, t, ho, hex, hd, _, _, hb, hf, hn⟩ := setTO_get I ha
    have big : scanBound < 2 ^ 62 := by decide
    refine call_len_set ho hex hd hf (by omega) ⟨.int (l.length : Nat), H, I.tok _, ⟨_, by rw [hn]⟩, q⟩
end
def uniq (l : List Nat) : List Str := l.foldl (fun a c => putT a ⟨#[c]⟩) []
theorem putT_len (l : List Str) (k : Str) : (putT l k).length ≤ l.length + 1 := by
  unfold putT
  split
  · omega
  · exact Nat.le_refl _
theorem uniq_take {l : List Nat} {i c : Nat} (h : l[i]? = some c) : uniq (l.take (i + 1)) = putT (uniq (l.take i)) ⟨#[c]⟩ := by
  unfold uniq
  rw [List.take_add_one, h, List.foldl_append]
  rfl
theorem uniq_len : ∀ (l : List Nat), (uniq l).length ≤ l.length := by
  intro l
  have h : ∀ (l : List Nat) (a : List Str), (l.foldl (fun a c => putT a ⟨#[c]⟩) a).length ≤ a.length + l.length := by
    intro l
    induction l with
    | nil => intro a; exact Nat.le_refl _
    | cons c r ih =>
      intro a
      have h1 := ih (putT a ⟨#[c]⟩)
      have h2 := putT_len a ⟨#[c]⟩
      simp only [List.foldl_cons, List.length_cons]
      omega
  have z := h l []
  rw [List.length_nil, Nat.zero_add] at z
  exact z
theorem uniq_mem : ∀ (l : List Nat) (c : Nat), (⟨#[c]⟩ : Str) ∈ uniq l ↔ c ∈ l := by
  have h : ∀ (l : List Nat) (a : List Str) (c : Nat), (⟨#[c]⟩ : Str) ∈ l.foldl (fun a c => putT a ⟨#[c]⟩) a ↔ ((⟨#[c]⟩ : Str) ∈ a ∨ c ∈ l) := by
    intro l
    induction l with
    | nil => intro a c; simp
    | cons d r ih =>
      intro a c
      simp only [List.foldl_cons, List.mem_cons]
      rw [ih]
      unfold putT
      split
      · rename_i m
        constructor
        · rintro (h | h)
          · exact .inl h
          · exact .inr (.inr h)
        · rintro (h | rfl | h)
          · exact .inl h
          · exact .inl m
          · exact .inr h
      · simp only [List.mem_cons, Str.mk.injEq, Array.mk.injEq, List.cons.injEq, and_true]
        constructor
        · rintro ((h | h) | h)
          · exact .inr (.inl h)
          · exact .inl h
          · exact .inr (.inr h)
        · rintro (h | h | h)
          · exact .inl (.inr h)
          · exact .inl (.inl h)
          · exact .inr h
  intro l c
  rw [show uniq l = l.foldl (fun a c => putT a ⟨#[c]⟩) [] from rfl, h]
  simp
/-- every sign once: as many members as signs -/
theorem uniq_nodup : ∀ {l : List Nat}, l.Nodup → (uniq l).length = l.length := by
  intro l
  have h : ∀ (r l : List Nat), (l ++ r).Nodup → (r.foldl (fun a c => putT a ⟨#[c]⟩) (uniq l)).length = (uniq l).length + r.length := by
    intro r
    induction r with
    | nil => intro l _; rfl
    | cons c r ih =>
      intro l n
      have n' : ((l ++ [c]) ++ r).Nodup := by simpa using n
      have hc : c ∉ l := fun m => by
        have := (List.nodup_append.mp n).2.2 c m c (by simp)
        exact this rfl
      have e : uniq (l ++ [c]) = putT (uniq l) ⟨#[c]⟩ := by
        unfold uniq
        rw [List.foldl_append]
        rfl
      have z := ih (l ++ [c]) n'
      rw [e] at z
      rw [List.foldl_cons, z]
      unfold putT
      rw [if_neg (fun m => hc ((uniq_mem l c).mp m))]
      simp only [List.length_cons]
      omega
  intro n
  have z := h l [] n
  simpa [uniq] using z
/-- len({x for x in e}), e a text; i: x's place -/
def tDist (i : Nat) (te : TE) : TE := fun σ H Q => i < σ.length ∧ te σ H fun v H1 => ∃ z : Str, v = .str z ∧ z.length ≤ 1000 ∧ ∀ H2, Same H1 H2 → Q (.int ((uniq z.cps.toList).length : Nat)) H2
theorem pe_distinct {X : Cx} {e : Expr} {i : Nat} {te : TE} (hm : ∀ (σ : L2.St) (H : Hp) (P P' : VK), (∀ w H1, P w H1 → P' w H1) → te σ H P → te σ H P')
    (h : PE X e (tCB (rLenT X.prog X.w) (tCons (tScT X.prog X.w (iSeqU X.K te) (gName i) tYes (tVar i) [i]) tNil))) : PE X e (tDist i te) := by
  refine ⟨fun pins s σ H Q I hq => h.run pins s σ H Q I ?_⟩
  obtain ⟨hi, hq⟩ := hq
  show iSeqU X.K te σ H _
  refine .inr (.inr (hm σ H _ _ ?_ hq))
  rintro v H1 ⟨z, rfl, hz, q⟩
  refine ⟨z, rfl, fun D hD => ?_⟩
  have hzl : z.cps.toList.length ≤ 1000 := by rw [Array.length_toList]; exact hz
  refine ⟨fun j m H => m = z.cps.size - j ∧ j ≤ z.cps.size ∧ H D = some (SetTO X.prog X.w D (uniq (z.cps.toList.take j))) ∧ Same H1 H, ⟨_, rfl, Nat.zero_le _, upd_same, same_new hD⟩, ?_⟩
  rintro j m H2 ⟨rfl, hj, hD2, s2⟩
  by_cases hlt : j < z.cps.size
  · refine .inr ⟨hlt, fun H' => j + 1 ≤ z.cps.size ∧ H' D = some (SetTO X.prog X.w D (uniq (z.cps.toList.take (j + 1)))) ∧ Same H1 H', fun H' p => ⟨_, by omega, rfl, p⟩, ?_⟩
    rintro x H' ⟨rfl, c, hc, rfl⟩
    have hw : i < (wipe σ [i]).length := by rw [wipe_length]; exact hi
    refine ⟨?_, _, by rw [List.getElem?_set_self hw], ?_⟩
    · simp [wipe, List.set_set]
    · have hc' : z.cps.toList[j]? = some c := by rw [Array.getElem?_toList]; exact hc
      refine ⟨⟨#[c]⟩, _, rfl, hD2, ?_, hlt, ?_, same_mut s2 hD⟩
      · have := uniq_len (z.cps.toList.take j)
        rw [List.length_take] at this
        have big : 2000 < scanBound := by decide
        omega
      · rw [upd_same, uniq_take hc']
  · have e : j = z.cps.size := by omega
    subst e
    refine .inl ⟨Nat.le_refl _, _, _, rfl, hD2, ?_⟩
    rw [List.take_of_length_le (by rw [Array.length_toList]; exact Nat.le_refl _)]
    exact q H2 s2
end Px

namespace Px
open PySem PySem.Spec PyProof.Rows L2
/-! ### a written dict of ints by ints -/
def intOf : Value → Option Int
  | .int i _ => some i
  | _ => none
def ents (l : List DictEntry) : List (Option Int × Int × Option Int) := l.map fun e => (intOf e.key, e.hash, intOf e.val)
def idB (K : PySem.W.Frag) (a : Addr) (kvs : List (Int × Int)) : Bool := match K.lookup a with
  | some ⟨.type c, none, .dict es _, sl⟩ => decide (c = "dict") && (sl.isEmpty && (!(a == sysModules) && decide (ents es.toList = kvs.map fun p => (some p.1, hashInt p.1, some p.2))))
  | _ => false
structure IDict (K : PySem.W.Frag) (a : Addr) (kvs : List (Int × Int)) : Prop where
  at_ : ∃ es n, K.lookup a = some ⟨.type "dict", none, .dict es n, #[]⟩ ∧ ents es.toList = kvs.map fun p => (some p.1, hashInt p.1, some p.2)
  low : (a == sysModules) = false
theorem idB_ok {K : PySem.W.Frag} {a : Addr} {kvs : List (Int × Int)} (h : idB K a kvs = true) : IDict K a kvs := by
  unfold idB at h
  split at h
  · rename_i c es n sl e
    simp only [Bool.and_eq_true, decide_eq_true_eq, Bool.not_eq_true'] at h
    obtain ⟨h1, h2, h3, h4⟩ := h
    subst h1
    rw [Array.isEmpty_iff.mp h2] at e
    exact ⟨⟨es, n, e, h4⟩, h3⟩
  · cases h
theorem intOf_some {v : Value} {i : Int} (h : intOf v = some i) : ∃ t, v = .int i t := by
  cases v with
  | int j t =>
    cases (show some j = some i from h)
    exact ⟨t, rfl⟩
  | _ => cases h
/-- the int at k -/
def atK (kvs : List (Int × Int)) (k : Int) : Option Int := (kvs.find? fun p => decide (p.1 = k)).map (·.2)
theorem ents_find (k : Int) : ∀ (l : List DictEntry) (kvs : List (Int × Int)), ents l = kvs.map (fun p => (some p.1, hashInt p.1, some p.2)) →
    (∀ e ∈ l, ∃ j t, e.key = .int j t ∧ e.hash = hashInt j) ∧ RelO ((atK kvs k).map V.int) ((l.find? fun e => Value.isInt k e.key).map (·.val))
  | [], [], _ => ⟨fun e he => (nomatch he), trivial⟩
  | [], _ :: _, h => by cases h
  | _ :: _, [], h => by cases h
  | e :: l, p :: kvs, h => by
    have h1 : (intOf e.key, e.hash, intOf e.val) :: ents l = (some p.1, hashInt p.1, some p.2) :: kvs.map (fun p => (some p.1, hashInt p.1, some p.2)) := h
    injection h1 with h2 h3
    simp only [Prod.mk.injEq] at h2
    obtain ⟨ek, eh, ev⟩ := h2
    obtain ⟨t, et⟩ := intOf_some ek
    obtain ⟨u, eu⟩ := intOf_some ev
    obtain ⟨i1, i2⟩ := ents_find k l kvs h3
    refine ⟨fun e' he' => ?_, ?_⟩
    · rcases List.mem_cons.mp he' with rfl | m
      · exact ⟨p.1, t, et, eh⟩
      · exact i1 e' m
    · unfold atK
      by_cases q : p.1 = k
      · rw [List.find?_cons_of_pos (by simpa using q), List.find?_cons_of_pos (by rw [et]; simp [Value.isInt, q])]
        show RelV (V.int p.2) e.val
        rw [eu]
        exact ⟨u, rfl⟩
      · rw [List.find?_cons_of_neg (by simpa using q), List.find?_cons_of_neg (by rw [et]; simp [Value.isInt, q])]
        exact i2
section
variable {X : Cx} {a : Addr} {kvs : List (Int × Int)}
theorem IDict.map (D : IDict X.K a kvs) {h : Heap} (I : X.K.In h) (k : Int) : ∃ f, h.MapOf (intKind X.prog X.w) a f ∧ RelO ((atK kvs k).map V.int) (f k) := by
  obtain ⟨es, n, e, q⟩ := D.at_
  obtain ⟨h1, h2⟩ := ents_find k es.toList kvs q
  refine ⟨fun k => findBy Value.isInt es k, ⟨_, es, n, I _ _ e, ⟨rfl, rfl, rfl⟩, rfl, fun e he => ?_, fun _ => rfl⟩, ?_⟩
  · obtain ⟨j, t, e1, e2⟩ := h1 e (Array.mem_toList_iff.mpr he)
    exact ⟨j, by rw [e1]; exact intKind_is _ _ _ _, e2⟩
  · show RelO _ ((es.find? fun e => Value.isInt k e.key).map (·.val))
    rw [← Array.find?_toList]
    exact h2
/-- k in D, D[k] -/
def rInID (kvs : List (Int × Int)) (a : Addr) (f : Bool → Bool) : R2 := fun x y H Q => ∃ k : Int, x = .int k ∧ y = .ref a ∧ Q (.bl (f (atK kvs k).isSome)) H
def rIxID (kvs : List (Int × Int)) (a : Addr) : R2 := fun x y H Q => ∃ k v : Int, x = .ref a ∧ y = .int k ∧ atK kvs k = some v ∧ Q (.int v) H
theorem relO_some {o : Option Int} {r : Option Value} (h : RelO (o.map V.int) r) : r.isSome = o.isSome := by
  cases o <;> cases r <;> first | rfl | exact h.elim
theorem op_inID (D : IDict X.K a kvs) : OpR X (compareOp .In) (rInID kvs a fun b => b) := by
  intro pins s σ H x y v u Q I rx ry h
  obtain ⟨k, rfl, rfl, q⟩ := h
  obtain ⟨t, rfl⟩ := rx
  cases ry
  obtain ⟨f, hm, r⟩ := D.map I.kIn k
  refine wpAny_in_of (knd := intKind X.prog X.w) (intKind_is _ _ k t) D.low hm ?_
  rw [relO_some r]
  exact ⟨.bl (atK kvs k).isSome, H, I.tok _, rfl, q⟩
theorem op_notInID (D : IDict X.K a kvs) : OpR X (compareOp .NotIn) (rInID kvs a fun b => !b) := by
  intro pins s σ H x y v u Q I rx ry h
  obtain ⟨k, rfl, rfl, q⟩ := h
  obtain ⟨t, rfl⟩ := rx
  cases ry
  obtain ⟨f, hm, r⟩ := D.map I.kIn k
  refine wpAny_notIn_of (knd := intKind X.prog X.w) (intKind_is _ _ k t) D.low hm ?_
  rw [relO_some r]
  exact ⟨.bl (!(atK kvs k).isSome), H, I.tok _, rfl, q⟩
theorem op_ixID (D : IDict X.K a kvs) : OpR X getItem (rIxID kvs a) := by
  intro pins s σ H x y v u Q I rx ry h
  obtain ⟨k, z, rfl, rfl, e, q⟩ := h
  obtain ⟨t, rfl⟩ := ry
  cases rx
  obtain ⟨f, hm, r⟩ := D.map I.kIn k
  rw [e] at r
  cases hf : f k with
  | none => rw [hf] at r; exact r.elim
  | some w' =>
    rw [hf] at r
    exact wpAny_getItem_of (knd := intKind X.prog X.w) (intKind_is _ _ k t) hm hf ⟨.int z, H, I.tok _, r, q⟩
theorem idict_type (D : IDict X.K a kvs) {pins : List (Addr × Obj)} {σ : L2.St} {H : Hp} {s : Shared} (I : Inv X pins σ H s) : s.TypeIs (.ref a) "dict" := by
  obtain ⟨es, n, e, _⟩ := D.at_
  exact ⟨_, I.kIn _ _ e, rfl⟩
theorem pe_ixID {o i : Expr} {td ty : TE} {pos : Pos} (D : IDict X.K a kvs) (ho : PE X o td) (hi : PE X i ty) (hs : NoSl i) : PE X (.Subscript o i pos) (tOp (rIxID kvs a) td ty) := by
  refine ⟨fun pins s σ H Q I h => ?_⟩
  refine subD_of PySem.F.slot_dict_getitem.lookup hs (thn (ho.run pins s σ H _ I h) fun u s1 ⟨x, H1, I1, rx, q1⟩ => thn (hi.run pins s1 σ H1 _ I1 q1) fun iv s2 ⟨y, H2, I2, ry, q2⟩ => ?_)
  have q3 := q2
  obtain ⟨k, z, rfl, _⟩ := q3
  obtain rfl : u = Value.ref a := rx
  exact ⟨idict_type D I2, op_ixID D pins s2 σ H2 (.ref a) y (.ref a) iv Q I2 rfl ry q2⟩
/-! ### sizes of what is written -/
end
end Px

namespace Px
open PySem PySem.Spec PyProof.Rows L2 He
/-! ### the head's facts: defs at any path, facts as Bools -/
/-- a def: the way to it, name, qualified name, parameters, body, scope, defaults, keyword-only defaults -/
structure DefA where
  way : PySem.W.Frag → Addr
  nme : Str
  qul : Str
  par : Arguments
  bdy : List Stmt
  scp : Scope
  dfs : List Dv := []
  kws : List (Str × Dv) := []
def DefA.sees (K : PySem.W.Frag) (d : DefA) : FnW := match K.lookup (d.way K) with
  | some ⟨_, _, .func fd, _⟩ => some (fd.name, fd.qualname, fd.params, fd.body, fd.scope, fd.globals, fd.closure, fd.builtins)
  | _ => none
def DefA.due (d : DefA) : FnW := some (d.nme, d.qul, d.par, .stmts d.bdy, d.scp, mainGlobals, [], builtinsNs)
def DefA.dV (K : PySem.W.Frag) (d : DefA) : List V := d.dfs.map (Dv.v K)
def DefA.kV (K : PySem.W.Frag) (d : DefA) : List (Str × V) := d.kws.map fun q => (q.1, q.2.v K)
def DefA.good (K : PySem.W.Frag) (d : DefA) : Bool := PySem.W.keepIn K (.ref (d.way K)) && (match K.lookup (d.way K) with
  | some ⟨_, _, .func fd, _⟩ => PySem.W.codeIn K fd.code d.qul && dflB K fd.defaults (d.dV K) && kwdB K fd.kwdefaults (d.kV K)
  | _ => false)
theorem DefA.fun_ {K : PySem.W.Frag} {d : DefA} (e : d.sees K = d.due) (c : d.good K = true) : ∃ fd, FunD K d.nme d.qul d.par d.bdy d.scp (d.dV K) (d.kV K) (d.way K) fd := by
  unfold DefA.good at c
  unfold DefA.sees DefA.due at e
  obtain ⟨kp, c⟩ := ba c
  split at e
  · rename_i oc od fd osl q
    rw [q] at c
    obtain ⟨c, k3⟩ := ba c
    obtain ⟨k1, k2⟩ := ba c
    obtain ⟨n1, n2, n3, n4, n5, n6, n7, n8, n9, n10, n11, n12, n13, n14, n15⟩ := fd
    simp only [Option.some.injEq, Prod.mk.injEq] at e
    obtain ⟨h1, h2, h3, h4, h5, h6, h7, h8⟩ := e
    subst h1 h2 h3 h4 h5 h6 h7 h8
    exact ⟨_, ⟨oc, od, n8, n9, n10, n11, n12, n13, n14, osl, rfl, q, k1, dflB_ok k2, kwdB_ok k3⟩, kp⟩
  · cases e
abbrev Fact : Type := PySem.W.Frag → Bool
abbrev AlA : Type := Bool × List FnW
def obsA (fs : List Fact) (ds : List DefA) (K : PySem.W.Frag) : AlA := ((fs.all fun f => f K) && ds.all fun d => d.good K, ds.map fun d => d.sees K)
def valA (ds : List DefA) : AlA := (true, ds.map DefA.due)
def SaysA (fs : List Fact) (ds : List DefA) (K : PySem.W.Frag) : Prop := obsA fs ds K = valA ds
/-- what is looked at: what the module's names reach, and the statics -/
def obsAG (n : Nat) (fs : List Fact) (ds : List DefA) (g : Addr → Option Obj) : AlA := obsA fs ds (frG g (cStatics :: asD g n))
def hookA (n : Nat) (fs : List Fact) (ds : List DefA) : PySem.W.Hook where
  α := AlA
  obs := fun s => obsAG n fs ds s.heap.get?
  val := fun _ => valA ds
  says := fun _ h => ∃ K : PySem.W.Frag, K.In h ∧ SaysA fs ds K
  of := fun _ _ e => ⟨_, frG_in, e⟩
  keeps := fun _ _ _ ⟨K, hK, c⟩ k => ⟨K, PySem.W.Frag.In.keeps hK k, c⟩
theorem obsAG_eq {n : Nat} {fs : List Fact} {ds : List DefA} {g : Addr → Option Obj} {s : Shared} (h : ∀ a, g a = s.heap.get? a) : obsAG n fs ds g = (hookA n fs ds).obs s := by
  have e : g = s.heap.get? := funext h
  subst e
  rfl
section
variable {fs : List Fact} {ds : List DefA} {K : PySem.W.Frag}
theorem SaysA.fact (c : SaysA fs ds K) (i : Nat) {f : Fact} (h : fs[i]? = some f := by rfl) : f K = true := by
  have z : ((fs.all fun f => f K) && ds.all fun d => d.good K) = true := congrArg (fun z : AlA => z.1) c
  exact List.all_eq_true.mp (ba z).1 f (List.mem_of_getElem? h)
theorem SaysA.def_ (c : SaysA fs ds K) (i : Nat) {d : DefA} (h : ds[i]? = some d := by rfl) : ∃ fd, FunD K d.nme d.qul d.par d.bdy d.scp (d.dV K) (d.kV K) (d.way K) fd := by
  have z : ((fs.all fun f => f K) && ds.all fun d => d.good K) = true := congrArg (fun z : AlA => z.1) c
  have e : ds.map (fun d => d.sees K) = ds.map DefA.due := congrArg (fun z : AlA => z.2) c
  have e2 : (ds.map fun d => d.sees K)[i]? = (ds.map DefA.due)[i]? := by rw [e]
  rw [List.getElem?_map, List.getElem?_map, h] at e2
  exact DefA.fun_ (Option.some.inj e2) (List.all_eq_true.mp (ba z).2 d (List.mem_of_getElem? h))
end
/-! ### ways -/
def wGlo (x : Str) (K : PySem.W.Frag) : Addr := ga K x
def wMeth (C m : Str) (K : PySem.W.Frag) : Addr := ma K (ga K C) m
/-- a property's getter -/
def wGet (C f : Str) (K : PySem.W.Frag) : Addr := match PySem.W.recIn K (ma K (ga K C) f) "property" with
  | some (.ref g :: _) => g
  | _ => 0
/-! ### facts -/
def fFa (f : Fa) : Fact := fun K => f.ok K
def fProp (C f : Str) : Fact := fun K => eqO (PySem.W.findIn K (.ref (ga K C)) f) (some (some (.ref (ma K (ga K C) f)))) &&
  (eqO (PySem.W.specialIn K (.ref (ma K (ga K C) f)) "__get__") (some (some (.builtin "property.__get__"))) &&
    (decide (PySem.W.takesIn K (.ref (ma K (ga K C) f)) = some true) && (match PySem.W.recIn K (ma K (ga K C) f) "property" with
      | some (.ref _ :: _) => true
      | _ => false)))
theorem fProp_ok {C f : Str} {K : PySem.W.Frag} (h : fProp C f K = true) : PropOf K (ga K C) f (ma K (ga K C) f) (wGet C f K) := by
  obtain ⟨h1, h⟩ := ba h
  obtain ⟨h2, h⟩ := ba h
  obtain ⟨h3, h4⟩ := ba h
  refine ⟨eqO_ok h1, eqO_ok h2, of_decide_eq_true h3, ?_⟩
  unfold wGet
  split at h4
  · rename_i g l e
    exact ⟨l, by rw [e]⟩
  · cases h4
end Px
namespace Px
open PySem PySem.Spec PyProof.Rows L2 He
/-- attributes of the class C are read plainly; C.f is v -/
def fCRead (C : Str) : Fact := fun K => PySem.W.readsIn K (ga K C) (.type "type") && eqO (PySem.W.specialIn K (.ref (ga K C)) "__getattribute__") (some (some (.builtin "type.__getattribute__")))
theorem fCRead_ok {C : Str} {K : PySem.W.Frag} (h : fCRead C K = true) : ClX.CRead K (ga K C) (.type "type") := by
  obtain ⟨h1, h2⟩ := ba h
  exact ⟨h1, eqO_ok h2⟩
def fCVal (C f : Str) (v : Dv) : Fact := fun K => match PySem.W.findCls K (.ref (ga K C)) (.type "type") f with
  | some (.val u) => relB (v.v K) u
  | _ => false
theorem fCVal_ok {C f : Str} {v : Dv} {K : PySem.W.Frag} (h : fCVal C f v K = true) : ∃ u, ClX.CVal K (ga K C) (.type "type") f (v.v K) u := by
  unfold fCVal at h
  split at h
  · rename_i u e
    exact ⟨u, e, relB_ok h⟩
  · cases h
def fTup (x : Str) (vs : List Dv) : Fact := fun K => tupB K x vs
end Px

namespace Px
open PySem PySem.Spec PyProof.Rows L2
open PySem.Builtin PySem.Builtin.Str in
/-- x filled up on the right by c -/
def fillR (x : Str) (i : Int) (c : Nat) : Str := if i ≤ x.length then x else padded x 0 (i.toNat - x.length) c
section
open PySem.Builtin PySem.Builtin.Str
theorem gives_ljust3 (x : Str) (i : Int) (t u v : Tok) (c : Nat) (hr : (decide (i < -(2 ^ 63 : Int)) || decide (i ≥ 2 ^ 63)) = false) (hl : tooLong i.toNat = false) :
    Gives («str.ljust» ⟨[.str x t, .int i u, .str ⟨#[c]⟩ v], []⟩) (if i ≤ x.length then .val (.str x t) else .str (padded x 0 (i.toNat - x.length) c)) := by
  show Gives (do
    let w ← asSsize "str.ljust" (.int i u)
    if w ≤ x.length then (do rule "str.ljust.long-enough"; ret (.str x t)) else if tooLong w.toNat = true then unsupported "str.ljust:memory" else retStr (padded x 0 (w.toNat - x.length) c)) _
  rw [asSsize_int _ _ _ hr]
  show Gives (if i ≤ x.length then (do rule "str.ljust.long-enough"; ret (.str x t)) else if tooLong i.toNat = true then unsupported "str.ljust:memory" else retStr (padded x 0 (i.toNat - x.length) c)) _
  rw [hl]
  by_cases h : i ≤ (x.length : Int)
  · rw [if_pos h, if_pos h]
    exact .rule (.of_eq rfl)
  · rw [if_neg h, if_neg h]
    exact .of_eq rfl
end
def rLjust : V → List V → Hp → VK → Prop := fun x xs H Q => ∃ (a : Str) (i : Int) (c : Nat), x = .str a ∧ xs = [.int i, .str ⟨#[c]⟩] ∧ PadOk i = true ∧ Q (.str (fillR a i c)) H
theorem mt_ljustC {X : Cx} : MtR X "str.ljust" rLjust := by
  intro pins s σ H x xs v us Q I rx rs h
  obtain ⟨a, i, c, rfl, rfl, hp, h⟩ := h
  obtain ⟨t, rfl⟩ := rx
  obtain ⟨u1, u2, rfl, r1, r2⟩ := vals2 rs
  obtain ⟨t1, rfl⟩ := r1
  obtain ⟨t2, rfl⟩ := r2
  exact call_gives F.slot_str_ljust (typeIs_str _ _ _) F.entry_str_ljust (F.args_str_ljust_3 _ _ _) (gives_ljust3 a i t t1 t2 c (PadOk.parts hp).1 (PadOk.parts hp).2)
    (post_val_or_made (fits_padR c (PadOk.parts hp).2) fun t' k => ⟨.str (fillR a i c), H, I.tok k, ⟨t', rfl⟩, h⟩)
abbrev rLower : V → List V → Hp → VK → Prop := fun x xs H Q => ∃ a, x = .str a ∧ xs = [] ∧ a.length ≤ 5592405 ∧ Q (.str (Txt.lower a)) H
abbrev rSplit : V → List V → Hp → VK → Prop := fun x xs H Q => ∃ a b, x = .str a ∧ xs = [.str b] ∧ (b.length == 0) = false ∧ a.length + 2 ≤ sizeLine ∧ rNewStrs (Txt.split a b) H Q
end Px

namespace Px
open PySem PySem.Spec PyProof.Rows L2
/-! ### steps for the readings of classes, kinds, formats -/
section
variable {K : PySem.W.Frag} {σ : S} {H : Hp} {Q : VK} {D : Ends} {ta tb te : TE} {tr tk : TA} {E : XK} {i j : Int} {f : Str} {C : Addr} {sp : Sp}
theorem r_fld (h : ta σ H fun x H1 => ∃ a C dx fs v, x = .ref a ∧ H1 a = some (.ins C dx fs) ∧ Cls K C ∧ NoAttr K C f ∧ fs.lookup f = some v ∧ Q v H1) : tFld K ta f σ H Q := h
theorem r_sfld {tv : TE} (h : tv σ H fun y H1 => ta σ H1 fun x H2 => ∃ a C dx fs, x = .ref a ∧ H2 a = some (.ins C dx fs) ∧ Cls K C ∧ NoAttr K C f ∧ fs.length < 1000 ∧ D.nx σ (upd H2 a (.ins C dx (putF f y fs)))) : sFld K ta tv f D σ H := h
theorem r_cval (h : ta σ H fun x H1 => ∃ C mc v u, x = .ref C ∧ ClX.CRead K C mc ∧ ClX.CVal K C mc f v u ∧ Q v H1) : ClX.tCVal K ta f σ H Q := h
theorem r_meth {m : Str} {dvs : List V} (h : ta σ H fun x H1 => ∃ a dx fs, x = .ref a ∧ H1 a = some (.ins C dx fs) ∧ fs.lookup m = none ∧ tr σ H1 fun vs H2 => sp (x :: (vs ++ dvs)) H2 Q E) : tMeth C m sp dvs E ta tr σ H Q := h
theorem r_makeK {n m : Nat} {gV : List V → List V → List V} (h : tr σ H fun vs H1 => tk σ H1 fun zs H2 => vs.length = n ∧ zs.length = m ∧ ∀ x dx, H2 x = none → H2 dx = none → dx ≠ x →
    sp (gV (.ref x :: vs) zs) (upd (upd H2 dx (.own x)) x (.ins C dx [])) (fun v H3 => v = .non ∧ Q (.ref x) H3) E) : tMakeK C n m sp gV E tr tk σ H Q := h
theorem r_fmtB {g : Nat → Str} (h : te σ H fun x H1 => ∃ n : Nat, x = .int n ∧ n < 256 ∧ Q (.str (g n)) H1) : tFmtB g te σ H Q := h
theorem r_dist {k : Nat} (h0 : k < σ.length) (h : te σ H fun v H1 => ∃ z : Str, v = .str z ∧ z.length ≤ 1000 ∧ ∀ H2, Same H1 H2 → Q (.int ((uniq z.cps.toList).length : Nat)) H2) : tDist k te σ H Q := ⟨h0, h⟩
theorem r_m0 {r : V → List V → Hp → VK → Prop} (h : ta σ H fun x H1 => (∃ a, x = .str a) ∧ r x [] H1 Q) : tM0 r ta σ H Q := h
theorem r_dget (h : ta σ H fun x H1 => tb σ H1 fun y H2 => ∃ a v, x = .ref a ∧ DGet H2 a y (some v) ∧ Q v H2) : tDGet ta tb σ H Q := h
theorem r_isiB {x : V} {t c : String} {b : Bool} (h1 : TyOf K H x (.type t)) (h2 : kitB t c = some b) (h : Q (.bl b) H) : rIsi K [x, .ty c] H Q := r_isi (.ty c) (.base h1) (kit_ty h2) h
theorem r_isiI (h : Q (.bl true) H) : rIsi K [.int i, .ty "int"] H Q := r_isiB (.int i) (by decide +kernel) h
theorem r_isiIB (h : Q (.bl false) H) : rIsi K [.int i, .ty "bool"] H Q := r_isiB (.int i) (by decide +kernel) h
theorem r_isiS {z : Str} (h : Q (.bl true) H) : rIsi K [.str z, .ty "str"] H Q := r_isiB (.str z) (by decide +kernel) h
theorem r_isiBB {b : Bool} (h : Q (.bl true) H) : rIsi K [.bl b, .ty "bool"] H Q := r_isiB (.bl b) (by decide +kernel) h
theorem r_isiTL {p t : Addr} {xs : List V} (h1 : H p = some (.lst xs)) (h2 : H t = some (.tup [.ty "list", .ty "tuple"])) (h : Q (.bl true) H) : rIsiT K [.ref p, .ref t] H Q :=
  ⟨.ref p, t, _, .type "list", _, true, rfl, h2, .cons (.ty "list") (.cons (.ty "tuple") .nil), .base (.lst h1), kitAny_cons (b := true) (kit_ty (by decide +kernel)) (fun z => by cases z) (fun _ => rfl), h⟩
theorem r_isiTT {p t : Addr} {xs : List V} (h1 : H p = some (.tup xs)) (h2 : H t = some (.tup [.ty "list", .ty "tuple"])) (h : Q (.bl true) H) : rIsiT K [.ref p, .ref t] H Q :=
  ⟨.ref p, t, _, .type "tuple", _, true, rfl, h2, .cons (.ty "list") (.cons (.ty "tuple") .nil), .base (.tup h1), kitAny_cons (b := false) (kit_ty (by decide +kernel))
    (fun _ => kitAny_cons (b := true) (kit_ty (by decide +kernel)) (fun z => by cases z) (fun _ => rfl)) (fun z => by cases z), h⟩
theorem r_inID {kvs : List (Int × Int)} {a : Addr} {g : Bool → Bool} (h : Q (.bl (g (atK kvs i).isSome)) H) : rInID kvs a g (.int i) (.ref a) H Q := ⟨i, rfl, rfl, h⟩
theorem r_ixID {kvs : List (Int × Int)} {a : Addr} (h1 : atK kvs i = some j) (h : Q (.int j) H) : rIxID kvs a (.ref a) (.int i) H Q := ⟨i, j, rfl, rfl, h1, h⟩
theorem r_intBin {x : Str} (h1 : x.cps.toList ≠ []) (h2 : x.length ≤ 640) (h3 : ∀ c ∈ x.cps.toList, Bn.IsBit c) (h : Q (.int ((Bn.binNum x.cps.toList : Nat) : Int)) H) : rIntBin [.str x, .int 2] H Q := ⟨x, rfl, h1, h2, h3, h⟩
theorem r_all {a : Addr} {bs : List Bool} (h1 : SqL K H a (bs.map V.bl)) (h : Q (.bl (bs.all id)) H) : rAll K [.ref a] H Q := ⟨a, bs, rfl, h1, h⟩
theorem r_inS {a b : Str} (h : rInS (.str a) (.str b) H Q) : rInU K (.str a) (.str b) H Q := .inl h
theorem r_enumL {R : It → Hp → Prop} (h : tr σ H fun vs H1 => ∃ a xs, vs = [.ref a] ∧ SqL K H1 a xs ∧ R (Ite K a) H1) : iEnumU K tr σ H R := .inl h
theorem r_enumS {R : It → Hp → Prop} (h : tr σ H fun vs H1 => ∃ z : Str, vs = [.str z] ∧ R (ItP z.cps.size (fun i => some (.int (i : Nat))) (sgn z)) H1) : iEnumU K tr σ H R := .inr h
theorem r_seqC {t u : TS} (Mid : S → Hp → Prop) (h2 : ∀ σ G, Mid σ G → u D σ G) (h1 : ∀ N : S → Hp → Prop, (∀ σ G, Mid σ G → N σ G) → t { D with nx := N } σ H) : tSeq t u D σ H := h1 (u D) h2
theorem r_gtI (h : Q (.bl (decide (j < i))) H) : rGtI (.int i) (.int j) H Q := r_I0 h
end
end Px

/-! rows of signs, over lists of numbers -/
namespace KR
/-- rows with a line feed between -/
def jn : List (List Nat) → List Nat
  | [] => []
  | [x] => x
  | x :: y :: r => x ++ 10 :: jn (y :: r)
theorem jn_cons {x : List Nat} {r : List (List Nat)} (h : r ≠ []) : jn (x :: r) = x ++ 10 :: jn r := by
  match r, h with
  | y :: r, _ => rfl
def Free (l : List Nat) : Prop := ∀ c ∈ l, c ≠ 10
theorem cut_first : ∀ {a b s t : List Nat}, Free a → Free b → a ++ 10 :: s = b ++ 10 :: t → a = b ∧ s = t
  | [], [], s, t, _, _, h => ⟨rfl, (List.cons.inj h).2⟩
  | [], y :: b, s, t, _, hb, h => absurd (List.cons.inj h).1.symm (hb y (List.mem_cons_self ..))
  | x :: a, [], s, t, ha, _, h => absurd (List.cons.inj h).1 (ha x (List.mem_cons_self ..))
  | x :: a, y :: b, s, t, ha, hb, h => by
    obtain ⟨h1, h2⟩ := List.cons.inj h
    obtain ⟨h3, h4⟩ := cut_first (fun c hc => ha c (List.mem_cons_of_mem _ hc)) (fun c hc => hb c (List.mem_cons_of_mem _ hc)) h2
    exact ⟨by rw [h1, h3], h4⟩
theorem no_cut {a b t : List Nat} (ha : Free a) (h : a = b ++ 10 :: t) : False := ha 10 (by rw [h]; simp) rfl
theorem jn_inj : ∀ {p q : List (List Nat)}, p ≠ [] → q ≠ [] → (∀ x ∈ p, Free x) → (∀ x ∈ q, Free x) → jn p = jn q → p = q
  | [x], [y], _, _, _, _, h => by
    have e : x = y := h
    rw [e]
  | [x], y :: z :: r, _, _, hp, _, h => (no_cut (hp x (List.mem_cons_self ..)) (show x = y ++ 10 :: jn (z :: r) from h)).elim
  | x :: z :: r, [y], _, _, _, hq, h => (no_cut (hq y (List.mem_cons_self ..)) (show y = x ++ 10 :: jn (z :: r) from h.symm)).elim
  | x :: x2 :: r, y :: y2 :: t, _, _, hp, hq, h => by
    obtain ⟨h1, h2⟩ := cut_first (hp x (List.mem_cons_self ..)) (hq y (List.mem_cons_self ..)) (show x ++ 10 :: jn (x2 :: r) = y ++ 10 :: jn (y2 :: t) from h)
    have ih := jn_inj (p := x2 :: r) (q := y2 :: t) (by simp) (by simp) (fun z hz => hp z (List.mem_cons_of_mem _ hz)) (fun z hz => hq z (List.mem_cons_of_mem _ hz)) h2
    rw [h1, ih]
  | [], _, h, _, _, _, _ => absurd rfl h
  | _ :: _, [], _, h, _, _, _ => absurd rfl h
theorem count_jn : ∀ {p : List (List Nat)}, p ≠ [] → (jn p).count 10 + 1 = p.length + p.flatten.count 10
  | [x], _ => by simp [jn]; omega
  | x :: y :: r, _ => by
    have ih := count_jn (p := y :: r) (by simp)
    rw [jn_cons (by simp), List.count_append, List.count_cons_self, List.flatten_cons, List.count_append]
    simp only [List.length_cons] at ih ⊢
    omega
  | [], h => absurd rfl h
theorem free_of {p : List (List Nat)} (h : p ≠ []) (e : p.length = (jn p).count 10 + 1) : ∀ x ∈ p, Free x := by
  have c := count_jn h
  have z : p.flatten.count 10 = 0 := by omega
  intro x hx c hc e10
  rw [e10] at hc
  exact (List.count_eq_zero.mp z) (List.mem_flatten.mpr ⟨x, hx, hc⟩)
theorem rows_num {n w r l : Nat} (hw : 0 < w) (h : n = w * r + l) (h1 : 1 ≤ l) (h2 : l ≤ w) : r + 1 = (n + w - 1) / w := by
  subst h
  have e : w * r + l + w - 1 = (l - 1) + w * (r + 1) := by rw [Nat.mul_add, Nat.mul_one]; omega
  rw [e, Nat.add_mul_div_left _ _ hw, Nat.div_eq_of_lt (by omega), Nat.zero_add]
theorem flat_len {w : Nat} : ∀ {p : List (List Nat)}, (∀ x ∈ p, x.length = w) → p.flatten.length = w * p.length
  | [], _ => rfl
  | x :: r, h => by
    rw [List.flatten_cons, List.length_append, h x (List.mem_cons_self ..), flat_len fun y hy => h y (List.mem_cons_of_mem _ hy), List.length_cons, Nat.mul_add, Nat.mul_one, Nat.add_comm]
end KR

namespace Px
open PySem PySem.Spec PyProof.Rows L2
local macro_rules | `(tactic| walk_at "ne") => `(tactic| first
  | assumption
  | (refine Ne.symm ?_; assumption)
  | (refine ne_of_none (H := ?xH) (o := ?xo) ?xa ?xb; (case xb => assumption); (case xa => walk_at "hp"))
  | (refine Ne.symm (ne_of_none (H := ?xH) (o := ?xo) ?xa ?xb); (case xb => assumption); (case xa => walk_at "hp"))
  | ((refine ne_of (H := ?xH) (o := ?xo) (u := ?xu) ?xa ?xb ?xc); (case xa => walk_at "hp"); (case xb => walk_at "hp"); (case xc => (intro z; cases z))))
local macro_rules | `(tactic| walk_at "hp") => `(tactic| first
  | assumption
  | ((refine gs (H := ?xH) ?xa ?xb); (case xa => assumption); (case xb => walk_at "hp"))
  | ((refine gb (b := ?xB) (H := ?xH) ?xa ?xc ?xb); (case xa => assumption); (case xb => walk_at "hp"); (case xc => walk_at "ne"))
  | exact upd_same
  | ((refine gu ?xa ?xb); (case xb => walk_at "hp"); (case xa => walk_at "ne")))
local macro_rules | `(tactic| walk_at "hl") => `(tactic| first
  | assumption
  | (refine ql ?_; walk_at "hp")
  | ((refine gsl (H := ?xH) ?xa ?xb); (case xa => assumption); (case xb => walk_at "hl"))
  | ((refine gbl (b := ?xB) (H := ?xH) ?xa ?xc ?xb); (case xa => assumption); (case xb => walk_at "hl"); (case xc => walk_at "ne")))
local macro_rules | `(tactic| walk_at "ht") => `(tactic| first
  | assumption
  | (refine qt ?_; walk_at "hp")
  | ((refine gst (H := ?xH) ?xa ?xb); (case xa => assumption); (case xb => walk_at "ht"))
  | ((refine gbt (b := ?xB) (H := ?xH) ?xa ?xc ?xb); (case xa => assumption); (case xb => walk_at "ht"); (case xc => walk_at "ne")))
local macro_rules | `(tactic| walk_at "hq") => `(tactic| first
  | assumption
  | ((refine IsQ.same (H := ?xH) ?xb ?xa); (case xa => assumption); (case xb => walk_at "hq")))
local macro_rules | `(tactic| walk_at "sz") => `(tactic| first
  | (show _ ≤ sizeLine; decide)
  | (refine small_line ?_; (simp only [List.length_map, List.length_append, List.length_cons, List.length_nil] at *); omega))
local macro_rules | `(tactic| walk_at "rd0") => `(tactic| first
  | (with_reducible refine r_yes ?_)
  | ((with_reducible refine r_listL (xs := ?xs) ?x1 ?_); (case x1 => walk_at "hl"))
  | (with_reducible refine r_nx ?_)
  | (with_reducible refine r_rt ?_)
  | (with_reducible refine r_bk ?_)
  | (with_reducible refine r_ct ?_)
  | ((with_reducible refine r_isiT (xs := ?xs) ?x1 ?_); (case x1 => walk_at "hp"))
  | (with_reducible refine r_bm ?_)
  | (with_reducible refine r_for ?_)
  | (with_reducible refine r_lc ?_)
  | (with_reducible refine r_asg ?_)
  | ((with_reducible refine r_var (v := ?xv) ?x1 ?_); (case x1 => rfl))
  | (with_reducible refine r_c ?_)
  | (with_reducible refine r_op ?_)
  | (with_reducible refine r_cons ?_)
  | (with_reducible refine r_nil ?_)
  | (with_reducible refine r_gname ?_)
  | (with_reducible refine r_I0 ?_)
  | (with_reducible refine r_addUI ?_)
  | (with_reducible refine r_eqUI ?_)
  | (with_reducible refine r_neUI ?_)
  | (with_reducible refine r_eqUS ?_)
  | (with_reducible refine r_neUS ?_)
  | (with_reducible refine r_eqUB ?_)
  | (with_reducible refine r_test ?_)
  | (with_reducible refine r_bl ?_)
  | (with_reducible refine r_int ?_)
  | (with_reducible refine r_ifs ?_)
  | (with_reducible refine r_ret ?_)
  | (with_reducible refine r_next ?_)
  | (with_reducible refine r_call ?_)
  | (with_reducible refine r_cb ?_)
  | (with_reducible refine r_tup ?_)
  | (with_reducible refine r_lst ?_)
  | (with_reducible refine r_gsub ?_)
  | ((with_reducible refine r_setL (xs := ?xs) (j := ?xj) ?x1 ?x2 ?_); (case x1 => walk_at "hp"); (case x2 => rfl))
  | ((with_reducible refine r_ixL (xs := ?xs) (v := ?xv) ?x1 ?x2 ?_); (case x1 => walk_at "hl"); (case x2 => first | rfl | assumption))
  | ((with_reducible refine r_ixT (xs := ?xs) (v := ?xv) ?x1 ?x2 ?_); (case x1 => walk_at "ht"); (case x2 => first | rfl | assumption))
  | (with_reducible refine r_gcons ?_)
  | (with_reducible refine r_gnil ?_)
  | ((with_reducible refine r_gtup (xs := ?xs) ?x1 ?x2 ?_); (case x1 => walk_at "ht"); (case x2 => rfl))
  | ((with_reducible refine r_aug (x := ?xv) ?x1 ?_); (case x1 => rfl))
  | (with_reducible refine r_iaddI ?_)
  | (with_reducible refine r_par ?_)
  | (with_reducible refine r_two ?_)
  | (with_reducible refine r_un ?_)
  | (with_reducible refine r_if ?_)
  | (with_reducible refine r_b ?_)
  | (with_reducible refine r_and ?_)
  | (with_reducible refine r_or ?_)
  | (with_reducible refine r_not ?_)
  | (with_reducible refine r_andV ?_)
  | (with_reducible refine r_orV ?_)
  | (with_reducible refine r_notV ?_)
  | (with_reducible refine r_chain ?_)
  | (with_reducible refine r_chain3 ?_)
  | (with_reducible refine r_drop ?_)
  | (with_reducible refine r_retN ?_)
  | (with_reducible refine r_brk ?_)
  | (with_reducible refine r_cont ?_)
  | (with_reducible refine r_iteT ?_)
  | (with_reducible refine r_iteNT ?_)
  | (with_reducible refine r_iteNF ?_)
  | (with_reducible refine r_iteF ?_)
  | (with_reducible refine r_sl ?_)
  | (with_reducible refine r_noPart ?_)
  | (with_reducible refine r_part ?_)
  | (with_reducible refine r_abs ?_)
  | (with_reducible refine r_max2 ?_)
  | (with_reducible refine r_min2 ?_)
  | ((with_reducible refine q_len (k := ?xk) (xs := ?xs) ?x1 ?_); (case x1 => walk_at "hq"))
  | ((with_reducible refine r_lenUL (xs := ?xs) ?x1 ?_); (case x1 => walk_at "hl"))
  | ((with_reducible refine r_lenUT (xs := ?xs) ?x1 ?_); (case x1 => walk_at "ht"))
  | ((with_reducible refine r_mulUI ?x1 ?_); (case x1 => first | exact .inl ⟨by decide, by decide⟩ | exact .inr ⟨by decide, by decide⟩ | exact .inl ⟨by omega, by omega⟩ | exact .inr ⟨by omega, by omega⟩))
  | (with_reducible refine r_rng1 ?_)
  | ((with_reducible refine r_I ?x1 ?_); (case x1 => first | decide | (show _ ∧ _; exact ⟨by omega, by omega⟩) | (show _ ≠ _; omega) | (show _ ∧ _ ∧ _; exact ⟨by decide, by decide, by omega⟩))))
local macro_rules | `(tactic| walk_at "rd1") => `(tactic| first | (with_reducible refine r_seq ?_) | walk_at "rd0")
local macro_rules | `(tactic| walk_at "rx") => `(tactic| repeat walk_at "rd0")
local macro_rules | `(tactic| walk_at "rd") => `(tactic| repeat walk_at "rd1")
set_option hygiene false in
local macro_rules | `(tactic| walk_at "new") => `(tactic| (refine And.intro (by walk_at "sz") ?_; intro p np; generalize hg : upd _ p _ = Hn; have hs := same_of hg np; have hv := at_of hg; clear hg))
set_option hygiene false in
local macro_rules | `(tactic| walk_at "newp") => `(tactic| (intro p np; generalize hg : upd _ p _ = Hn; have hs := same_of hg np; have hv := at_of hg; clear hg))

def topS (i : Nat) : Stmt := PySem.Challenge.pw_piecetexts_k10_rows_of_bit_codes.main.body.getD i (.Pass ⟨0, 0, 0, 0⟩)
abbrev s_is_integer : Stmt := topS 10
theorem sc_is_integer : FnScope ["value"] ["value"] (defScope s_is_integer) := ⟨rfl, rfl, rfl, by decide +kernel, rfl, by decide +kernel, by decide +kernel⟩
abbrev s_is_within : Stmt := topS 11
theorem sc_is_within : FnScope ["value", "low", "high"] ["value", "low", "high"] (defScope s_is_within) := ⟨rfl, rfl, rfl, by decide +kernel, rfl, by decide +kernel, by decide +kernel⟩
abbrev s_is_byte : Stmt := topS 12
theorem sc_is_byte : FnScope ["value"] ["value"] (defScope s_is_byte) := ⟨rfl, rfl, rfl, by decide +kernel, rfl, by decide +kernel, by decide +kernel⟩
abbrev s_is_sign : Stmt := topS 13
theorem sc_is_sign : FnScope ["value"] ["value"] (defScope s_is_sign) := ⟨rfl, rfl, rfl, by decide +kernel, rfl, by decide +kernel, by decide +kernel⟩
abbrev s_are_signs : Stmt := topS 14
theorem sc_are_signs : FnScope ["value", "character"] ["value"] (defScope s_are_signs) := ⟨rfl, rfl, rfl, by decide +kernel, rfl, by decide +kernel, by decide +kernel⟩
abbrev s_data_of : Stmt := topS 15
theorem sc_data_of : FnScope ["value", "index", "byte"] ["value"] (defScope s_data_of) := ⟨rfl, rfl, rfl, by decide +kernel, rfl, by decide +kernel, by decide +kernel⟩
abbrev s_Code_signs : Stmt := inClass (topS 27) 9
theorem sc_Code_signs : FnScope ["self"] ["self"] (defScope s_Code_signs) := ⟨rfl, rfl, rfl, by decide +kernel, rfl, by decide +kernel, by decide +kernel⟩
abbrev s_Code_pad : Stmt := inClass (topS 27) 10
theorem sc_Code_pad : FnScope ["self"] ["self"] (defScope s_Code_pad) := ⟨rfl, rfl, rfl, by decide +kernel, rfl, by decide +kernel, by decide +kernel⟩
abbrev s_Code_width : Stmt := inClass (topS 27) 11
theorem sc_Code_width : FnScope ["self"] ["self"] (defScope s_Code_width) := ⟨rfl, rfl, rfl, by decide +kernel, rfl, by decide +kernel, by decide +kernel⟩
abbrev s_Code_bits : Stmt := inClass (topS 27) 12
theorem sc_Code_bits : FnScope ["self"] ["self"] (defScope s_Code_bits) := ⟨rfl, rfl, rfl, by decide +kernel, rfl, by decide +kernel, by decide +kernel⟩
abbrev s_Code_group : Stmt := inClass (topS 27) 13
theorem sc_Code_group : FnScope ["self"] ["self"] (defScope s_Code_group) := ⟨rfl, rfl, rfl, by decide +kernel, rfl, by decide +kernel, by decide +kernel⟩
abbrev s_Code_begin : Stmt := inClass (topS 27) 15
theorem sc_Code_begin : FnScope ["self"] ["self"] (defScope s_Code_begin) := ⟨rfl, rfl, rfl, by decide +kernel, rfl, by decide +kernel, by decide +kernel⟩
abbrev s_Code_is_full : Stmt := inClass (topS 27) 16
theorem sc_Code_is_full : FnScope ["self", "column"] ["self", "column"] (defScope s_Code_is_full) := ⟨rfl, rfl, rfl, by decide +kernel, rfl, by decide +kernel, by decide +kernel⟩
abbrev s_Code_next_column : Stmt := inClass (topS 27) 17
theorem sc_Code_next_column : FnScope ["self", "column"] ["self", "column"] (defScope s_Code_next_column) := ⟨rfl, rfl, rfl, by decide +kernel, rfl, by decide +kernel, by decide +kernel⟩
abbrev s_Code_placed : Stmt := inClass (topS 27) 18
theorem sc_Code_placed : FnScope ["self", "column", "sign"] ["self", "column", "sign"] (defScope s_Code_placed) := ⟨rfl, rfl, rfl, by decide +kernel, rfl, by decide +kernel, by decide +kernel⟩
abbrev s_Code_write : Stmt := inClass (topS 27) 19
theorem sc_Code_write : FnScope ["self", "state", "byte", "bits", "signs", "column", "part", "more"] ["self", "state", "byte"] (defScope s_Code_write) := ⟨rfl, rfl, rfl, by decide +kernel, rfl, by decide +kernel, by decide +kernel⟩
abbrev s_Code_close : Stmt := inClass (topS 27) 20
theorem sc_Code_close : FnScope ["self", "state", "bits", "signs", "column", "last", "rest", "missing", "turn", "more"] ["self", "state"] (defScope s_Code_close) := ⟨rfl, rfl, rfl, by decide +kernel, rfl, by decide +kernel, by decide +kernel⟩
abbrev s_Machine_whole : Stmt := inClass (topS 21) 2
theorem sc_Machine_whole : FnScope ["self", "data", "parts", "state", "byte", "part"] ["self", "data"] (defScope s_Machine_whole) := ⟨rfl, rfl, rfl, by decide +kernel, rfl, by decide +kernel, by decide +kernel⟩
abbrev s_plain_text : Stmt := topS 18
theorem sc_plain_text : FnScope ["code", "data"] ["code", "data"] (defScope s_plain_text) := ⟨rfl, rfl, rfl, by decide +kernel, rfl, by decide +kernel, by decide +kernel⟩
abbrev s_text_of : Stmt := topS 19
theorem sc_text_of : FnScope ["code", "data"] ["code", "data"] (defScope s_text_of) := ⟨rfl, rfl, rfl, by decide +kernel, rfl, by decide +kernel, by decide +kernel⟩
abbrev s_Code___init__ : Stmt := inClass (topS 27) 1
theorem sc_Code___init__ : FnScope ["self", "signs", "pad", "width", "digit", "sign"] ["self", "signs", "pad", "width"] (defScope s_Code___init__) := ⟨rfl, rfl, rfl, by decide +kernel, rfl, by decide +kernel, by decide +kernel⟩
abbrev s_l_bag : Stmt := topS 29
theorem sc_l_bag : FnScope ["_law_script", "_law_at", "_law_cell", "_law_digits_here"] ["_law_script", "_law_at"] (defScope s_l_bag) := ⟨rfl, rfl, rfl, by decide +kernel, rfl, by decide +kernel, by decide +kernel⟩
abbrev s_l_take : Stmt := topS 30
theorem sc_l_take : FnScope ["_law_bag_here", "_law_many", "_law_digit", "_law_mixed"] ["_law_bag_here", "_law_many"] (defScope s_l_take) := ⟨rfl, rfl, rfl, by decide +kernel, rfl, by decide +kernel, by decide +kernel⟩
abbrev s_l_of : Stmt := topS 31
theorem sc_l_of : FnScope ["_law_bag_here", "_law_some"] ["_law_bag_here", "_law_some"] (defScope s_l_of) := ⟨rfl, rfl, rfl, by decide +kernel, rfl, by decide +kernel, by decide +kernel⟩
abbrev s_l_all_signs : Stmt := topS 32
theorem sc_l_all_signs : FnScope ["_law_capitals"] [] (defScope s_l_all_signs) := ⟨rfl, rfl, rfl, by decide +kernel, rfl, by decide +kernel, by decide +kernel⟩
abbrev s_l_code : Stmt := topS 33
theorem sc_l_code : FnScope ["_law_bag_here", "_law_some", "_law_many", "_law_first", "_law_pace", "_law_row", "_law_room", "_law_k"] ["_law_bag_here"] (defScope s_l_code) := ⟨rfl, rfl, rfl, by decide +kernel, rfl, by decide +kernel, by decide +kernel⟩
abbrev s_l_size : Stmt := topS 34
theorem sc_l_size : FnScope ["_law_code_here"] ["_law_code_here"] (defScope s_l_size) := ⟨rfl, rfl, rfl, by decide +kernel, rfl, by decide +kernel, by decide +kernel⟩
abbrev s_l_data : Stmt := topS 35
theorem sc_l_data : FnScope ["_law_bag_here", "_law_most", "_law_few", "_law_many", "_law_k"] ["_law_bag_here", "_law_most"] (defScope s_l_data) := ⟨rfl, rfl, rfl, by decide +kernel, rfl, by decide +kernel, by decide +kernel⟩
abbrev s_l_bits : Stmt := topS 36
theorem sc_l_bits : FnScope ["_law_data_here", "_law_found", "_law_byte", "_law_worth"] ["_law_data_here"] (defScope s_l_bits) := ⟨rfl, rfl, rfl, by decide +kernel, rfl, by decide +kernel, by decide +kernel⟩
abbrev s_l_number : Stmt := topS 37
theorem sc_l_number : FnScope ["_law_bits_here", "_law_total", "_law_bit"] ["_law_bits_here"] (defScope s_l_number) := ⟨rfl, rfl, rfl, by decide +kernel, rfl, by decide +kernel, by decide +kernel⟩
abbrev s_l_digits : Stmt := topS 38
theorem sc_l_digits : FnScope ["_law_code_here", "_law_data_here", "_law_bits_here", "_law_size_here", "_law_at"] ["_law_code_here", "_law_data_here"] (defScope s_l_digits) := ⟨rfl, rfl, rfl, by decide +kernel, rfl, by decide +kernel, by decide +kernel⟩
abbrev s_l_right : Stmt := topS 39
theorem sc_l_right : FnScope ["_law_code_here", "_law_room", "_law_some", "_law_wide", "_law_plain", "_law_text", "_law_whole", "_law_rows", "_law_row"] ["_law_code_here", "_law_room", "_law_some"] (defScope s_l_right) := ⟨rfl, rfl, rfl, by decide +kernel, rfl, by decide +kernel, by decide +kernel⟩
abbrev s_law : Stmt := topS 40
theorem sc_law : FnScope ["_law_script", "_law_at", "_law_bag_here", "_law_turn", "_law_code_here", "_law_some", "_law_many", "_law_rooms", "_law_room"] ["_law_script"] (defScope s_law) := ⟨rfl, rfl, rfl, by decide +kernel, rfl, by decide +kernel, by decide +kernel⟩
structure Txt (K : PySem.W.Frag) (mg : Str → Option Value) : Type where
  C_Code : Addr
  C_Code_g : mg "Code" = some (.ref C_Code)
  C_Code_c : Cls K C_Code
  is_integer_a : Addr
  is_integer_d : FuncData
  is_integer_f : FunD K "is_integer" "is_integer" (defArgs s_is_integer) (defBody s_is_integer) (defScope s_is_integer) [] [] is_integer_a is_integer_d
  is_integer_g : mg "is_integer" = some (.ref is_integer_a)
  is_integer_b : Binds K is_integer_d ["value"] []
  is_within_a : Addr
  is_within_d : FuncData
  is_within_f : FunD K "is_within" "is_within" (defArgs s_is_within) (defBody s_is_within) (defScope s_is_within) [] [] is_within_a is_within_d
  is_within_g : mg "is_within" = some (.ref is_within_a)
  is_within_b : Binds K is_within_d ["value", "low", "high"] []
  is_byte_a : Addr
  is_byte_d : FuncData
  is_byte_f : FunD K "is_byte" "is_byte" (defArgs s_is_byte) (defBody s_is_byte) (defScope s_is_byte) [] [] is_byte_a is_byte_d
  is_byte_g : mg "is_byte" = some (.ref is_byte_a)
  is_byte_b : Binds K is_byte_d ["value"] []
  is_sign_a : Addr
  is_sign_d : FuncData
  is_sign_f : FunD K "is_sign" "is_sign" (defArgs s_is_sign) (defBody s_is_sign) (defScope s_is_sign) [] [] is_sign_a is_sign_d
  is_sign_g : mg "is_sign" = some (.ref is_sign_a)
  is_sign_b : Binds K is_sign_d ["value"] []
  are_signs_a : Addr
  are_signs_d : FuncData
  are_signs_f : FunD K "are_signs" "are_signs" (defArgs s_are_signs) (defBody s_are_signs) (defScope s_are_signs) [] [] are_signs_a are_signs_d
  are_signs_g : mg "are_signs" = some (.ref are_signs_a)
  are_signs_b : Binds K are_signs_d ["value"] []
  data_of_a : Addr
  data_of_d : FuncData
  data_of_f : FunD K "data_of" "data_of" (defArgs s_data_of) (defBody s_data_of) (defScope s_data_of) [] [] data_of_a data_of_d
  data_of_g : mg "data_of" = some (.ref data_of_a)
  data_of_b : Binds K data_of_d ["value"] []
  Code_signs_a : Addr
  Code_signs_d : FuncData
  Code_signs_f : FunD K "signs" "Code.signs" (defArgs s_Code_signs) (defBody s_Code_signs) (defScope s_Code_signs) [] [] Code_signs_a Code_signs_d
  Code_signs_q : Addr
  Code_signs_p : PropOf K C_Code "signs" Code_signs_q Code_signs_a
  Code_signs_b : Binds K Code_signs_d ["self"] []
  Code_pad_a : Addr
  Code_pad_d : FuncData
  Code_pad_f : FunD K "pad" "Code.pad" (defArgs s_Code_pad) (defBody s_Code_pad) (defScope s_Code_pad) [] [] Code_pad_a Code_pad_d
  Code_pad_q : Addr
  Code_pad_p : PropOf K C_Code "pad" Code_pad_q Code_pad_a
  Code_pad_b : Binds K Code_pad_d ["self"] []
  Code_width_a : Addr
  Code_width_d : FuncData
  Code_width_f : FunD K "width" "Code.width" (defArgs s_Code_width) (defBody s_Code_width) (defScope s_Code_width) [] [] Code_width_a Code_width_d
  Code_width_q : Addr
  Code_width_p : PropOf K C_Code "width" Code_width_q Code_width_a
  Code_width_b : Binds K Code_width_d ["self"] []
  Code_bits_a : Addr
  Code_bits_d : FuncData
  Code_bits_f : FunD K "bits" "Code.bits" (defArgs s_Code_bits) (defBody s_Code_bits) (defScope s_Code_bits) [] [] Code_bits_a Code_bits_d
  Code_bits_q : Addr
  Code_bits_p : PropOf K C_Code "bits" Code_bits_q Code_bits_a
  Code_bits_b : Binds K Code_bits_d ["self"] []
  Code_group_a : Addr
  Code_group_d : FuncData
  Code_group_f : FunD K "group" "Code.group" (defArgs s_Code_group) (defBody s_Code_group) (defScope s_Code_group) [] [] Code_group_a Code_group_d
  Code_group_q : Addr
  Code_group_p : PropOf K C_Code "group" Code_group_q Code_group_a
  Code_group_b : Binds K Code_group_d ["self"] []
  Code_begin_a : Addr
  Code_begin_d : FuncData
  Code_begin_f : FunD K "begin" "Code.begin" (defArgs s_Code_begin) (defBody s_Code_begin) (defScope s_Code_begin) [] [] Code_begin_a Code_begin_d
  Code_begin_m : Meth K C_Code "begin" Code_begin_a
  Code_begin_b : Binds K Code_begin_d ["self"] []
  Code_is_full_a : Addr
  Code_is_full_d : FuncData
  Code_is_full_f : FunD K "is_full" "Code.is_full" (defArgs s_Code_is_full) (defBody s_Code_is_full) (defScope s_Code_is_full) [] [] Code_is_full_a Code_is_full_d
  Code_is_full_m : Meth K C_Code "is_full" Code_is_full_a
  Code_is_full_b : Binds K Code_is_full_d ["self", "column"] []
  Code_next_column_a : Addr
  Code_next_column_d : FuncData
  Code_next_column_f : FunD K "next_column" "Code.next_column" (defArgs s_Code_next_column) (defBody s_Code_next_column) (defScope s_Code_next_column) [] [] Code_next_column_a Code_next_column_d
  Code_next_column_m : Meth K C_Code "next_column" Code_next_column_a
  Code_next_column_b : Binds K Code_next_column_d ["self", "column"] []
  Code_placed_a : Addr
  Code_placed_d : FuncData
  Code_placed_f : FunD K "placed" "Code.placed" (defArgs s_Code_placed) (defBody s_Code_placed) (defScope s_Code_placed) [] [] Code_placed_a Code_placed_d
  Code_placed_m : Meth K C_Code "placed" Code_placed_a
  Code_placed_b : Binds K Code_placed_d ["self", "column", "sign"] []
  Code_write_a : Addr
  Code_write_d : FuncData
  Code_write_f : FunD K "write" "Code.write" (defArgs s_Code_write) (defBody s_Code_write) (defScope s_Code_write) [] [] Code_write_a Code_write_d
  Code_write_m : Meth K C_Code "write" Code_write_a
  Code_write_b : Binds K Code_write_d ["self", "state", "byte"] []
  Code_close_a : Addr
  Code_close_d : FuncData
  Code_close_f : FunD K "close" "Code.close" (defArgs s_Code_close) (defBody s_Code_close) (defScope s_Code_close) [] [] Code_close_a Code_close_d
  Code_close_m : Meth K C_Code "close" Code_close_a
  Code_close_b : Binds K Code_close_d ["self", "state"] []
  Machine_whole_a : Addr
  Machine_whole_d : FuncData
  Machine_whole_f : FunD K "whole" "Machine.whole" (defArgs s_Machine_whole) (defBody s_Machine_whole) (defScope s_Machine_whole) [] [] Machine_whole_a Machine_whole_d
  Machine_whole_m : Meth K C_Code "whole" Machine_whole_a
  Machine_whole_b : Binds K Machine_whole_d ["self", "data"] []
  plain_text_a : Addr
  plain_text_d : FuncData
  plain_text_f : FunD K "plain_text" "plain_text" (defArgs s_plain_text) (defBody s_plain_text) (defScope s_plain_text) [] [] plain_text_a plain_text_d
  plain_text_g : mg "plain_text" = some (.ref plain_text_a)
  plain_text_b : Binds K plain_text_d ["code", "data"] []
  text_of_a : Addr
  text_of_d : FuncData
  text_of_f : FunD K "text_of" "text_of" (defArgs s_text_of) (defBody s_text_of) (defScope s_text_of) [] [] text_of_a text_of_d
  text_of_g : mg "text_of" = some (.ref text_of_a)
  text_of_b : Binds K text_of_d ["code", "data"] []
  Code___init___a : Addr
  Code___init___d : FuncData
  Code___init___f : FunD K "__init__" "Code.__init__" (defArgs s_Code___init__) (defBody s_Code___init__) (defScope s_Code___init__) [] [("pad", .str (Str.ofString "")), ("width", .int 0)] Code___init___a Code___init___d
  C_Code_m : Mk K C_Code Code___init___a
  l_bag_a : Addr
  l_bag_d : FuncData
  l_bag_f : FunD K "_law_bag" "_law_bag" (defArgs s_l_bag) (defBody s_l_bag) (defScope s_l_bag) [] [] l_bag_a l_bag_d
  l_bag_g : mg "_law_bag" = some (.ref l_bag_a)
  l_bag_b : Binds K l_bag_d ["_law_script", "_law_at"] []
  l_take_a : Addr
  l_take_d : FuncData
  l_take_f : FunD K "_law_take" "_law_take" (defArgs s_l_take) (defBody s_l_take) (defScope s_l_take) [] [] l_take_a l_take_d
  l_take_g : mg "_law_take" = some (.ref l_take_a)
  l_take_b : Binds K l_take_d ["_law_bag_here", "_law_many"] []
  l_of_a : Addr
  l_of_d : FuncData
  l_of_f : FunD K "_law_of" "_law_of" (defArgs s_l_of) (defBody s_l_of) (defScope s_l_of) [] [] l_of_a l_of_d
  l_of_g : mg "_law_of" = some (.ref l_of_a)
  l_of_b : Binds K l_of_d ["_law_bag_here", "_law_some"] []
  l_all_signs_a : Addr
  l_all_signs_d : FuncData
  l_all_signs_f : FunD K "_law_all_signs" "_law_all_signs" (defArgs s_l_all_signs) (defBody s_l_all_signs) (defScope s_l_all_signs) [] [] l_all_signs_a l_all_signs_d
  l_all_signs_g : mg "_law_all_signs" = some (.ref l_all_signs_a)
  l_all_signs_b : Binds K l_all_signs_d [] []
  l_code_a : Addr
  l_code_d : FuncData
  l_code_f : FunD K "_law_code" "_law_code" (defArgs s_l_code) (defBody s_l_code) (defScope s_l_code) [] [] l_code_a l_code_d
  l_code_g : mg "_law_code" = some (.ref l_code_a)
  l_code_b : Binds K l_code_d ["_law_bag_here"] []
  l_size_a : Addr
  l_size_d : FuncData
  l_size_f : FunD K "_law_size" "_law_size" (defArgs s_l_size) (defBody s_l_size) (defScope s_l_size) [] [] l_size_a l_size_d
  l_size_g : mg "_law_size" = some (.ref l_size_a)
  l_size_b : Binds K l_size_d ["_law_code_here"] []
  l_data_a : Addr
  l_data_d : FuncData
  l_data_f : FunD K "_law_data" "_law_data" (defArgs s_l_data) (defBody s_l_data) (defScope s_l_data) [] [] l_data_a l_data_d
  l_data_g : mg "_law_data" = some (.ref l_data_a)
  l_data_b : Binds K l_data_d ["_law_bag_here", "_law_most"] []
  l_bits_a : Addr
  l_bits_d : FuncData
  l_bits_f : FunD K "_law_bits" "_law_bits" (defArgs s_l_bits) (defBody s_l_bits) (defScope s_l_bits) [] [] l_bits_a l_bits_d
  l_bits_g : mg "_law_bits" = some (.ref l_bits_a)
  l_bits_b : Binds K l_bits_d ["_law_data_here"] []
  l_number_a : Addr
  l_number_d : FuncData
  l_number_f : FunD K "_law_number" "_law_number" (defArgs s_l_number) (defBody s_l_number) (defScope s_l_number) [] [] l_number_a l_number_d
  l_number_g : mg "_law_number" = some (.ref l_number_a)
  l_number_b : Binds K l_number_d ["_law_bits_here"] []
  l_digits_a : Addr
  l_digits_d : FuncData
  l_digits_f : FunD K "_law_digits" "_law_digits" (defArgs s_l_digits) (defBody s_l_digits) (defScope s_l_digits) [] [] l_digits_a l_digits_d
  l_digits_g : mg "_law_digits" = some (.ref l_digits_a)
  l_digits_b : Binds K l_digits_d ["_law_code_here", "_law_data_here"] []
  l_right_a : Addr
  l_right_d : FuncData
  l_right_f : FunD K "_law_right" "_law_right" (defArgs s_l_right) (defBody s_l_right) (defScope s_l_right) [] [] l_right_a l_right_d
  l_right_g : mg "_law_right" = some (.ref l_right_a)
  l_right_b : Binds K l_right_d ["_law_code_here", "_law_room", "_law_some"] []
  law_a : Addr
  law_d : FuncData
  law_f : FunD K "law" "law" (defArgs s_law) (defBody s_law) (defScope s_law) [] [] law_a law_d
  law_g : mg "law" = some (.ref law_a)
  law_b : Binds K law_d ["_law_script"] []
  Code___init___k1_pad : ∃ g, KBn K Code___init___d ["self", "signs", "pad", "width"] 2 ["pad"] g (fun vs zs => vs ++ (zs ++ [.int 0]))
  Code___init___k1_pad_width : ∃ g, KBn K Code___init___d ["self", "signs", "pad", "width"] 2 ["pad", "width"] g (fun vs zs => vs ++ zs)
  C_Code_n_parts : NoAttr K C_Code "parts"
  C_Code_n_sign_bits : NoAttr K C_Code "sign_bits"
  C_Code_n_digits : NoAttr K C_Code "digits"
  C_Code_r : ClX.CRead K C_Code (.type "type")
  C_Code_v_WIDEST : ∃ u, ClX.CVal K C_Code (.type "type") "WIDEST" (.int 76) u
  k_PRINTED_u : Value
  k_PRINTED_g : mg "PRINTED" = some k_PRINTED_u
  k_PRINTED_r : RelV (.str (Str.ofString " !\"#$&'()*+,-./0123456789:;<=>?@ABCDEFGHIJKLMNOPQRSTUVWXYZ[\\]^_`abcdefghijklmnopqrstuvwxyz{|}~")) k_PRINTED_u
  k_MOST_BYTES_u : Value
  k_MOST_BYTES_g : mg "MOST_BYTES" = some k_MOST_BYTES_u
  k_MOST_BYTES_r : RelV (.int 600) k_MOST_BYTES_u
  k_GROUPS_a : Addr
  k_GROUPS_g : mg "GROUPS" = some (.ref k_GROUPS_a)
  k_GROUPS_t : ∀ H, SqT K H k_GROUPS_a [.int 0, .int 8, .int 4, .int 8, .int 2, .int 8, .int 4]
  k_NEWLINE_u : Value
  k_NEWLINE_g : mg "NEWLINE" = some k_NEWLINE_u
  k_NEWLINE_r : RelV (.str (Str.ofString "\n")) k_NEWLINE_u
  k_BITS_a : Addr
  k_BITS_g : mg "BITS" = some (.ref k_BITS_a)
  k_BITS_d : IDict K k_BITS_a [(2, 1), (4, 2), (8, 3), (16, 4), (32, 5), (64, 6)]
  n_abs : mg "abs" = none
  n_all : mg "all" = none
  n_bool : mg "bool" = none
  n_enumerate : mg "enumerate" = none
  n_int : mg "int" = none
  n_isinstance : mg "isinstance" = none
  n_len : mg "len" = none
  n_list : mg "list" = none
  n_max : mg "max" = none
  n_min : mg "min" = none
  n_range : mg "range" = none
  n_str : mg "str" = none
  n_tuple : mg "tuple" = none

section
variable {P : Program} {w : World} {K : PySem.W.Frag} {mg : Str → Option Value} {base : Heap}
/-! ### the draws -/
structure Bag (n : Nat) (d m c : Int) : Prop where
  d0 : 0 ≤ d
  m0 : 0 ≤ m
  m1 : m < 2305843009213693951
  c0 : 0 ≤ c
  c1 : c + n ≤ 1000000
def BagAt (H : Hp) (b : Addr) (n : Nat) : Prop := ∃ d m c, Bag n d m c ∧ H b = some (.lst [.int d, .int m, .int c])
theorem BagAt.mono {H : Hp} {b : Addr} {n m : Nat} (h : BagAt H b n) (l : m ≤ n) : BagAt H b m := by
  obtain ⟨d, x, c, ⟨h1, h2, h3, h4, h5⟩, e⟩ := h
  exact ⟨d, x, c, ⟨h1, h2, h3, h4, by omega⟩, e⟩
theorem BagAt.same {H H' : Hp} {b : Addr} {n : Nat} (h : BagAt H b n) (e : Same H H') : BagAt H' b n := by
  obtain ⟨d, x, c, B, q⟩ := h
  exact ⟨d, x, c, B, e _ _ q⟩
theorem BagAt.some {H : Hp} {b : Addr} {n : Nat} (h : BagAt H b n) : ∃ o, H b = some o := let ⟨_, _, _, _, e⟩ := h; ⟨_, e⟩
theorem BagAt.ne {H : Hp} {b p : Addr} {n : Nat} (h : BagAt H b n) (e : H p = none) : p ≠ b := fun z => by
  obtain ⟨o, q⟩ := h.some
  rw [z, q] at e
  cases e
theorem BagAt.upd {H : Hp} {b p : Addr} {m : Nat} {o : HO} (h : BagAt H b m) (n : p ≠ b) : BagAt (upd H p o) b m := by
  obtain ⟨d, x, c, B, q⟩ := h
  exact ⟨d, x, c, B, gu (Ne.symm n) q⟩
theorem sameB_mut {b : Addr} {H H' : Hp} {p : Addr} {o : HO} (e : SameB b H H') (h : H p = none) : SameB b H (upd H' p o) := fun a u n ha => (upd_ne (ne_of_none ha h)).trans (e a u n ha)
def sp_l_take (T : Txt K mg) : Sp := fun vs H Q _ => ∃ (b : Addr) (k : Int) (n : Nat), vs = [.ref b, .int k] ∧ BagAt H b (n + 1) ∧ 0 < k ∧ k < 1000000 ∧
  ∀ r H', 0 ≤ r → r < k → BagAt H' b n → SameB b H H' → Q (.int r) H'
theorem len_l_take (T : Txt K mg) (vs : List V) (H : Hp) (Q : VK) (E : XK) (h : sp_l_take T vs H Q E) : vs.length = 2 := by
  obtain ⟨b, k, n, rfl, _⟩ := h
  rfl
def t_l_take (T : Txt K mg) : TS := (tSeq (tIfS (tTest (tOp rGtI (tOp (rIx K) (tVar 0) (tC (.int 0))) (tC (.int 0)))) (tSeq (tAsg (tOp rModI (tOp (rIx K) (tVar 0) (tC (.int 0))) (tVar 1)) (gName 2))
    (tSeq (tAsg (tOp rFdivI (tOp (rIx K) (tVar 0) (tC (.int 0))) (tVar 1)) (gSub (tVar 0) (tC (.int 0)) rSetL))
    (tRet (tVar 2)))) tNext)
    (tSeq (tAsg (tOp (rAddU K) (tOp (rIx K) (tVar 0) (tC (.int 2))) (tC (.int 1))) (gSub (tVar 0) (tC (.int 2)) rSetL))
    (tSeq (tAsg (tOp rModI (tOp rPowI (tOp (rAddU K) (tOp (rIx K) (tVar 0) (tC (.int 1))) (tOp (rMulU K) (tC (.int 1000033)) (tOp (rIx K) (tVar 0) (tC (.int 2))))) (tC (.int 3))) (tC (.int 2305843009213693921))) (gName 3))
    (tSeq (tAsg (tOp rModI (tOp rPowI (tOp (rAddU K) (tVar 3) (tOp (rMulU K) (tC (.int 32452867)) (tOp (rIx K) (tVar 0) (tC (.int 2))))) (tC (.int 2))) (tC (.int 2305843009213693951))) (gName 3))
    (tRet (tOp rModI (tOp rFdivI (tVar 3) (tC (.int 1024))) (tVar 1)))))))

theorem pure_l_take (T : Txt K mg) (vs : List V) (H : Hp) (Q : VK) (E : XK) (h : sp_l_take T vs H Q E) : t_l_take T { nx := fun _ H' => Q .non H', rt := Q } (start ["_law_bag_here", "_law_many", "_law_digit", "_law_mixed"] vs) H := by
  obtain ⟨b, k, n, rfl, ⟨d, m, c, ⟨d0, m0, m1, c0, c1⟩, hB⟩, hk, hk2, q⟩ := h
  unfold t_l_take
  have hM : ∀ x : Int, 0 ≤ x.fmod 2305843009213693921 ∧ x.fmod 2305843009213693921 < 2305843009213693921 := fun x => ⟨Int.fmod_nonneg_of_pos x (by decide), Int.fmod_lt_of_pos x (by decide)⟩
  walk_at "rd"
  refine r_iteD (fun hd => ?_) (fun hd => ?_)
  · walk_at "rd"
    refine q _ _ (Int.fmod_nonneg_of_pos _ hk) (Int.fmod_lt_of_pos _ hk) ⟨_, _, _, ⟨?_, m0, m1, c0, by omega⟩, upd_same⟩ sameB_upd
    rw [Int.fdiv_eq_ediv_of_nonneg _ (Int.le_of_lt hk)]
    exact Int.ediv_nonneg d0 (Int.le_of_lt hk)
  · walk_at "rd"
    generalize hx : ((m + 1000033 * (c + 1)) ^ (Int.toNat 3)).fmod 2305843009213693921 = x1
    have hx1 := hM ((m + 1000033 * (c + 1)) ^ (Int.toNat 3))
    rw [hx] at hx1
    walk_at "rd"
    exact q _ _ (Int.fmod_nonneg_of_pos _ hk) (Int.fmod_lt_of_pos _ hk) ⟨_, _, _, ⟨d0, m0, m1, by omega, by omega⟩, upd_same⟩ sameB_upd
theorem ok_l_take (T : Txt K mg) : FnOk P w K mg base CX0 1 T.l_take_a T.l_take_d ["_law_bag_here", "_law_many"] (sp_l_take T) := by
  refine T.l_take_f.ok sc_l_take (fun vs H Q E h => len_l_take T vs H Q E h) (fun cdv A outer s H vs Q E hr h => ⟨t_l_take T, PSs.nox ?_, pure_l_take T vs H Q E h⟩)
  have hu := hu64 hr
  exact (pss_cons (ps_if (pt_cmpR op_gt (pe_ix ix_seq (pv 0) pe_int (fun _ _ => rfl)) pe_int (nomark _)) (pss_cons (ps_set (i := 2) sc_l_take.nd rfl (.inl rfl) (pe_op op_modN (pe_ix ix_seq (pv 0) pe_int (fun _ _ => rfl)) (pv 1)))
      (pss_cons (ps_asg (pe_op op_fdivN (pe_ix ix_seq (pv 0) pe_int (fun _ _ => rfl)) (pv 1)) (pg_sub (pv 0) pe_int set_list))
      (pss_one (ps_ret (pv 2))))) pss_nil)
      (pss_cons (ps_asg (pe_op op_addU (pe_ix ix_seq (pv 0) pe_int (fun _ _ => rfl)) pe_int) (pg_sub (pv 0) pe_int set_list))
      (pss_cons (ps_set (i := 3) sc_l_take.nd rfl (.inl rfl) (pe_op op_modN (pe_op op_pow (pe_op op_addU (pe_ix ix_seq (pv 0) pe_int (fun _ _ => rfl)) (pe_op op_mulU pe_int (pe_ix ix_seq (pv 0) pe_int (fun _ _ => rfl)))) pe_int) pe_int))
      (pss_cons (ps_set (i := 3) sc_l_take.nd rfl (.inl rfl) (pe_op op_modN (pe_op op_pow (pe_op op_addU (pv 3) (pe_op op_mulU pe_int (pe_ix ix_seq (pv 0) pe_int (fun _ _ => rfl)))) pe_int) pe_int))
      (pss_one (ps_ret (pe_op op_modN (pe_op op_fdivN (pv 3) pe_int) (pv 1))))))))


def sp_l_bag (T : Txt K mg) : Sp := fun vs H Q _ => ∃ (a : Addr) (ns : List Int) (i : Nat), vs = [.ref a, .int i] ∧ SqL K H a (ns.map V.int) ∧ ns.length ≤ 63 ∧ i ≤ 1000 ∧
  ∀ p H', Same H H' → H p = none → BagAt H' p 1000000 → Q (.ref p) H'
theorem len_l_bag (T : Txt K mg) (vs : List V) (H : Hp) (Q : VK) (E : XK) (h : sp_l_bag T vs H Q E) : vs.length = 2 := by
  obtain ⟨a, ns, i, rfl, _⟩ := h
  rfl
def t_l_bag (T : Txt K mg) : TS := (tSeq (tAsg (tIf (tTest (tOp rLtI (tVar 1) (tCB (rLenU K) (tCons (tVar 0) tNil)))) (tOp (rIx K) (tVar 0) (tVar 1)) (tC (.int 0))) (gName 2))
    (tSeq (tAsg (tIf (tTest (tOp rGeI (tCB rAbs (tCons (tVar 2) tNil)) (tOp rPowI (tC (.int 10)) (tC (.int 18))))) (tCB rAbs (tCons (tVar 2) tNil)) (tC (.int 0))) (gName 3))
    (tRet (tLst (tCons (tVar 3) (tCons (tOp rModI (tOp (rMulU K) (tOp (rAddU K) (tOp (rAddU K) (tOp rModI (tVar 2) (tC (.int 2305843009213693951))) (tOp (rMulU K) (tC (.int 5003)) (tVar 1))) (tC (.int 71))) (tC (.int 7368787))) (tC (.int 2305843009213693951))) (tCons (tC (.int 0)) tNil)))))))

theorem pure_l_bag (T : Txt K mg) (vs : List V) (H : Hp) (Q : VK) (E : XK) (h : sp_l_bag T vs H Q E) : t_l_bag T { nx := fun _ H' => Q .non H', rt := Q } (start ["_law_script", "_law_at", "_law_cell", "_law_digits_here"] vs) H := by
  obtain ⟨a, ns, i, rfl, hS, hl, hi, q⟩ := h
  unfold t_l_bag
  have fin : ∀ d x : Int, 0 ≤ d → [V.int d, V.int (x.fmod 2305843009213693951), V.int 0].length ≤ sizeLine ∧ ∀ p, H p = none → Q (.ref p) (upd H p (.lst [V.int d, V.int (x.fmod 2305843009213693951), V.int 0])) := by
    intro d x hd
    walk_at "new"
    exact q _ _ hs np ⟨_, _, _, ⟨hd, Int.fmod_nonneg_of_pos _ (by decide), Int.fmod_lt_of_pos _ (by decide), Int.le_refl _, by decide⟩, hv⟩
  walk_at "rd"
  refine r_iteD (fun h => ?_) (fun h => ?_)
  · have hi' : i < ns.length := by
      rw [List.length_map] at h
      omega
    have g : atI (ns.map V.int) (i : Int) = some (.int ns[i]) := atI_nat (by rw [List.getElem?_map, List.getElem?_eq_getElem hi']; rfl)
    walk_at "rd"
    refine r_iteD (fun h => ?_) (fun h => ?_)
    · walk_at "rd"
      exact fin _ _ (by split <;> omega)
    · walk_at "rd"
      exact fin _ _ (Int.le_refl _)
  · walk_at "rd"
    refine r_iteD (fun h => ?_) (fun h => ?_)
    · walk_at "rd"
      exact fin _ _ (by split <;> omega)
    · walk_at "rd"
      exact fin _ _ (Int.le_refl _)
theorem ok_l_bag (T : Txt K mg) : FnOk P w K mg base CX0 1 T.l_bag_a T.l_bag_d ["_law_script", "_law_at"] (sp_l_bag T) := by
  refine T.l_bag_f.ok sc_l_bag (fun vs H Q E h => len_l_bag T vs H Q E h) (fun cdv A outer s H vs Q E hr h => ⟨t_l_bag T, PSs.nox ?_, pure_l_bag T vs H Q E h⟩)
  have hu := hu64 hr
  exact (pss_cons (ps_set (i := 2) sc_l_bag.nd rfl (.inl rfl) (pe_ifExp (pt_cmpR op_lt (pv 1) (pe_callB c_lenU (by rfl) T.n_len (by decide +kernel) (pa_cons (pv 0) pa_nil)) (nomark _)) (pe_ix ix_seq (pv 0) (pv 1) (fun _ _ => rfl)) pe_int))
      (pss_cons (ps_set (i := 3) sc_l_bag.nd rfl (.inl rfl) (pe_ifExp (pt_cmpR op_ge (pe_callB c_abs (by rfl) T.n_abs (by decide +kernel) (pa_cons (pv 2) pa_nil)) (pe_op op_pow pe_int pe_int) (nomark _)) (pe_callB c_abs (by rfl) T.n_abs (by decide +kernel) (pa_cons (pv 2) pa_nil)) pe_int))
      (pss_one (ps_ret (pe_lst (pa_cons (pv 3) (pa_cons (pe_op op_modN (pe_op op_mulU (pe_op op_addU (pe_op op_addU (pe_op op_modN (pv 2) pe_int) (pe_op op_mulU pe_int (pv 1))) pe_int) pe_int) pe_int) (pa_cons pe_int pa_nil))))))))

def sp_l_of (T : Txt K mg) : Sp := fun vs H Q _ => ∃ (b l : Addr) (xs : List V) (n : Nat), vs = [.ref b, .ref l] ∧ SqL K H l xs ∧ l ≠ b ∧ BagAt H b (n + 1) ∧ 0 < xs.length ∧ xs.length < 1000000 ∧
  ∀ (j : Nat) x H', xs[j]? = some x → BagAt H' b n → SameB b H H' → Q x H'
theorem len_l_of (T : Txt K mg) (vs : List V) (H : Hp) (Q : VK) (E : XK) (h : sp_l_of T vs H Q E) : vs.length = 2 := by
  obtain ⟨a, l, xs, i, rfl, _⟩ := h
  rfl
def t_l_of (T : Txt K mg) : TS := (tRet (tOp (rIx K) (tVar 1) (tCall (sp_l_take T) [] E0 (tCons (tVar 0) (tCons (tCB (rLenU K) (tCons (tVar 1) tNil)) tNil)))))

theorem pure_l_of (T : Txt K mg) (vs : List V) (H : Hp) (Q : VK) (E : XK) (h : sp_l_of T vs H Q E) : t_l_of T { nx := fun _ H' => Q .non H', rt := Q } (start ["_law_bag_here", "_law_some"] vs) H := by
  obtain ⟨b, l, xs, n, rfl, hS, hne, hB, h0, h1, q⟩ := h
  unfold t_l_of
  walk_at "rd"
  refine ⟨b, xs.length, n, rfl, hB, by omega, by omega, fun r H' r0 r1 hB' hs => ?_⟩
  obtain ⟨j, rfl⟩ : ∃ j : Nat, r = j := ⟨r.toNat, by omega⟩
  have hj : j < xs.length := by omega
  have g : atI xs (j : Int) = some xs[j] := atI_nat (List.getElem?_eq_getElem hj)
  walk_at "rd"
  exact q j _ _ (List.getElem?_eq_getElem hj) hB' hs
theorem ok_l_of (T : Txt K mg) : FnOk P w K mg base CX0 2 T.l_of_a T.l_of_d ["_law_bag_here", "_law_some"] (sp_l_of T) := by
  refine T.l_of_f.ok sc_l_of (fun vs H Q E h => len_l_of T vs H Q E h) (fun cdv A outer s H vs Q E hr h => ⟨t_l_of T, PSs.nox ?_, pure_l_of T vs H Q E h⟩)
  have hu := hu64 hr
  exact (pss_one (ps_ret (pe_ix ix_seq (pv 1) (pe_call (ok_l_take T) (hr.mono (by decide)) (by rfl) T.l_take_g T.l_take_f.kp T.l_take_b .nil pass0 (pa_cons (pv 0) (pa_cons (pe_callB c_lenU (by rfl) T.n_len (by decide +kernel) (pa_cons (pv 1) pa_nil)) pa_nil))) (fun _ _ => rfl))))



/-! ### signs -/
def prn : List Nat := List.range' 32 5 ++ List.range' 38 89
theorem prn_eq : (Str.ofString " !\"#$&'()*+,-./0123456789:;<=>?@ABCDEFGHIJKLMNOPQRSTUVWXYZ[\\]^_`abcdefghijklmnopqrstuvwxyz{|}~").cps.toList = prn := by decide +kernel
/-- a sign that a code may have -/
def Sg (c : Nat) : Prop := 33 ≤ c ∧ c ≤ 126 ∧ c ≠ 37
theorem Sg.mem {c : Nat} (h : Sg c) : c ∈ prn := by
  unfold prn
  unfold Sg at h
  rw [List.mem_append, List.mem_range'_1, List.mem_range'_1]
  omega
def Sgs (z : Str) : Prop := ∀ c ∈ z.cps.toList, Sg c
def sp_is_integer (T : Txt K mg) : Sp := fun vs H Q _ => ∃ i : Int, vs = [.int i] ∧ Q (.bl true) H
theorem len_is_integer (T : Txt K mg) (vs : List V) (H : Hp) (Q : VK) (E : XK) (h : sp_is_integer T vs H Q E) : vs.length = 1 := by
  obtain ⟨_, rfl, _⟩ := h
  rfl
def t_is_integer (T : Txt K mg) : TS := (tRet (tAndV (tCB (rIsi K) (tCons (tVar 0) (tCons (tC (.ty "int")) tNil))) (tNotV (tCB (rIsi K) (tCons (tVar 0) (tCons (tC (.ty "bool")) tNil))))))

theorem pure_is_integer (T : Txt K mg) (vs : List V) (H : Hp) (Q : VK) (E : XK) (h : sp_is_integer T vs H Q E) : t_is_integer T { nx := fun _ H' => Q .non H', rt := Q } (start ["value"] vs) H := by
  obtain ⟨i, rfl, q⟩ := h
  unfold t_is_integer
  walk_at "rd"
  refine r_isiI ?_
  walk_at "rd"
  refine r_isiIB ?_
  walk_at "rd"
  exact q
theorem ok_is_integer (T : Txt K mg) : FnOk P w K mg base CX0 1 T.is_integer_a T.is_integer_d ["value"] (sp_is_integer T) := by
  refine T.is_integer_f.ok sc_is_integer (fun vs H Q E h => len_is_integer T vs H Q E h) (fun cdv A outer s H vs Q E hr h => ⟨t_is_integer T, PSs.nox ?_, pure_is_integer T vs H Q E h⟩)
  have hu := hu64 hr
  exact (pss_one (ps_ret (pe_and (pe_callB call_isi (by rfl) T.n_isinstance (by decide +kernel) (pa_cons (pv 0) (pa_cons (pe_bltn (v := .ty "int") (by rfl) T.n_int (by decide +kernel) rfl) pa_nil))) (pe_one (pe_not (pe_callB call_isi (by rfl) T.n_isinstance (by decide +kernel) (pa_cons (pv 0) (pa_cons (pe_bltn (v := .ty "bool") (by rfl) T.n_bool (by decide +kernel) rfl) pa_nil))))))))

def sp_is_within (T : Txt K mg) : Sp := fun vs H Q _ => ∃ x lo hi : Int, vs = [.int x, .int lo, .int hi] ∧ Q (.bl (decide (lo ≤ x) && decide (x ≤ hi))) H
theorem len_is_within (T : Txt K mg) (vs : List V) (H : Hp) (Q : VK) (E : XK) (h : sp_is_within T vs H Q E) : vs.length = 3 := by
  obtain ⟨_, _, _, rfl, _⟩ := h
  rfl
def t_is_within (T : Txt K mg) : TS := (tRet (tAndV (tCall (sp_is_integer T) [] E0 (tCons (tVar 0) tNil)) (tChain rLeI rLeI (tVar 1) (tVar 0) (tVar 2))))

theorem pure_is_within (T : Txt K mg) (vs : List V) (H : Hp) (Q : VK) (E : XK) (h : sp_is_within T vs H Q E) : t_is_within T { nx := fun _ H' => Q .non H', rt := Q } (start ["value", "low", "high"] vs) H := by
  obtain ⟨x, lo, hi, rfl, q⟩ := h
  unfold t_is_within
  walk_at "rd"
  refine ⟨x, rfl, ?_⟩
  walk_at "rd"
  refine r_iteD (fun h => ?_) (fun h => ?_)
  · walk_at "rd"
    rw [decide_eq_true h, Bool.true_and] at q
    exact q
  · rw [decide_eq_false h, Bool.false_and] at q
    exact q
theorem ok_is_within (T : Txt K mg) : FnOk P w K mg base CX0 2 T.is_within_a T.is_within_d ["value", "low", "high"] (sp_is_within T) := by
  refine T.is_within_f.ok sc_is_within (fun vs H Q E h => len_is_within T vs H Q E h) (fun cdv A outer s H vs Q E hr h => ⟨t_is_within T, PSs.nox ?_, pure_is_within T vs H Q E h⟩)
  have hu := hu64 hr
  exact (pss_one (ps_ret (pe_and (pe_call (ok_is_integer T) (hr.mono (by decide)) (by rfl) T.is_integer_g T.is_integer_f.kp T.is_integer_b .nil pass0 (pa_cons (pv 0) pa_nil)) (pe_one (pe_chain op_le op_le (pv 1) (pv 0) (pv 2))))))

def sp_is_byte (T : Txt K mg) : Sp := fun vs H Q _ => ∃ x : Int, vs = [.int x] ∧ Q (.bl (decide (0 ≤ x) && decide (x ≤ 255))) H
theorem len_is_byte (T : Txt K mg) (vs : List V) (H : Hp) (Q : VK) (E : XK) (h : sp_is_byte T vs H Q E) : vs.length = 1 := by
  obtain ⟨_, rfl, _⟩ := h
  rfl
def t_is_byte (T : Txt K mg) : TS := (tRet (tCall (sp_is_within T) [] E0 (tCons (tVar 0) (tCons (tC (.int 0)) (tCons (tC (.int 255)) tNil)))))

theorem pure_is_byte (T : Txt K mg) (vs : List V) (H : Hp) (Q : VK) (E : XK) (h : sp_is_byte T vs H Q E) : t_is_byte T { nx := fun _ H' => Q .non H', rt := Q } (start ["value"] vs) H := by
  obtain ⟨x, rfl, q⟩ := h
  unfold t_is_byte
  walk_at "rd"
  exact ⟨x, 0, 255, rfl, q⟩
theorem ok_is_byte (T : Txt K mg) : FnOk P w K mg base CX0 3 T.is_byte_a T.is_byte_d ["value"] (sp_is_byte T) := by
  refine T.is_byte_f.ok sc_is_byte (fun vs H Q E h => len_is_byte T vs H Q E h) (fun cdv A outer s H vs Q E hr h => ⟨t_is_byte T, PSs.nox ?_, pure_is_byte T vs H Q E h⟩)
  have hu := hu64 hr
  exact (pss_one (ps_ret (pe_call (ok_is_within T) (hr.mono (by decide)) (by rfl) T.is_within_g T.is_within_f.kp T.is_within_b .nil pass0 (pa_cons (pv 0) (pa_cons pe_int (pa_cons pe_int pa_nil))))))

def sp_is_sign (T : Txt K mg) : Sp := fun vs H Q _ => ∃ c : Nat, vs = [.str ⟨#[c]⟩] ∧ Sg c ∧ Q (.bl true) H
theorem len_is_sign (T : Txt K mg) (vs : List V) (H : Hp) (Q : VK) (E : XK) (h : sp_is_sign T vs H Q E) : vs.length = 1 := by
  obtain ⟨_, rfl, _⟩ := h
  rfl
def t_is_sign (T : Txt K mg) : TS := (tRet (tAndV (tCB (rIsi K) (tCons (tVar 0) (tCons (tC (.ty "str")) tNil))) (tAndV (tOp (rEqU K) (tCB (rLenU K) (tCons (tVar 0) tNil)) (tC (.int 1))) (tAndV (tOp (rInU K) (tVar 0) (tC (.str (Str.ofString " !\"#$&'()*+,-./0123456789:;<=>?@ABCDEFGHIJKLMNOPQRSTUVWXYZ[\\]^_`abcdefghijklmnopqrstuvwxyz{|}~")))) (tOp (rNeU K) (tVar 0) (tC (.str (Str.ofString " "))))))))

theorem pure_is_sign (T : Txt K mg) (vs : List V) (H : Hp) (Q : VK) (E : XK) (h : sp_is_sign T vs H Q E) : t_is_sign T { nx := fun _ H' => Q .non H', rt := Q } (start ["value"] vs) H := by
  obtain ⟨c, rfl, hc, q⟩ := h
  unfold t_is_sign
  walk_at "rd"
  refine r_isiS ?_
  walk_at "rd"
  refine r_lenUS (by show 1 ≤ sizeLine; decide) ?_
  walk_at "rd"
  refine r_iteD (fun _ => ?_) (fun h => absurd rfl h)
  walk_at "rd"
  refine r_inS ⟨c, _, rfl, rfl, ?_⟩
  rw [prn_eq, decide_eq_true hc.mem]
  walk_at "rd"
  have hne : (⟨#[c]⟩ : Str) ≠ Str.ofString " " := by
    intro z
    have e : c = 32 := by
      have z2 := congrArg (fun s : Str => s.cps.toList) z
      have z3 : [c] = [32] := z2
      exact (List.cons.inj z3).1
    unfold Sg at hc
    omega
  rw [decide_eq_false hne]
  exact q
theorem ok_is_sign (T : Txt K mg) : FnOk P w K mg base CX0 1 T.is_sign_a T.is_sign_d ["value"] (sp_is_sign T) := by
  refine T.is_sign_f.ok sc_is_sign (fun vs H Q E h => len_is_sign T vs H Q E h) (fun cdv A outer s H vs Q E hr h => ⟨t_is_sign T, PSs.nox ?_, pure_is_sign T vs H Q E h⟩)
  have hu := hu64 hr
  exact (pss_one (ps_ret (pe_and (pe_callB call_isi (by rfl) T.n_isinstance (by decide +kernel) (pa_cons (pv 0) (pa_cons (pe_bltn (v := .ty "str") (by rfl) T.n_str (by decide +kernel) rfl) pa_nil))) (pe_and (pe_cmpR (op_eqU hu) (pe_callB c_lenU (by rfl) T.n_len (by decide +kernel) (pa_cons (pv 0) pa_nil)) pe_int (nomark _)) (pe_and (pe_cmpR op_inU (pv 0) (pe_glob (by rfl) T.k_PRINTED_g T.k_PRINTED_r) (by rfl)) (pe_one (pe_cmpR (op_neU hu) (pv 0) pe_str (nomark _))))))))

def sp_are_signs (T : Txt K mg) : Sp := fun vs H Q _ => ∃ z : Str, vs = [.str z] ∧ z.length ≤ 1000 ∧ Sgs z ∧ z.cps.toList.Nodup ∧ ∀ H', Same H H' → Q (.bl true) H'
theorem len_are_signs (T : Txt K mg) (vs : List V) (H : Hp) (Q : VK) (E : XK) (h : sp_are_signs T vs H Q E) : vs.length = 1 := by
  obtain ⟨_, rfl, _⟩ := h
  rfl
def t_are_signs (T : Txt K mg) : TS := (tSeq (tIfS (tOr (tNot (tB (tCB (rIsi K) (tCons (tVar 0) (tCons (tC (.ty "str")) tNil))))) (tNot (tB (tCB (rAll K) (tCons (tLc (iSeqU K (tVar 0)) (gName 1) tYes (tCall (sp_is_sign T) [] E0 (tCons (tVar 1) tNil)) [1]) tNil))))) (tRet (tC (.bl false))) tNext)
    (tRet (tOp (rEqU K) (tDist 1 (tVar 0)) (tCB (rLenU K) (tCons (tVar 0) tNil)))))

theorem pure_are_signs (T : Txt K mg) (vs : List V) (H : Hp) (Q : VK) (E : XK) (h : sp_are_signs T vs H Q E) : t_are_signs T { nx := fun _ H' => Q .non H', rt := Q } (start ["value", "character"] vs) H := by
  obtain ⟨z, rfl, hl, hs, hn, q⟩ := h
  unfold t_are_signs
  walk_at "rd"
  refine r_isiS ?_
  walk_at "rd"
  refine r_iseqS ?_
  walk_at "rd"
  refine ⟨z, rfl, fun D hD => ?_⟩
  refine c_it walk_str (fun i G => G D = some (.lst ((List.replicate i true).map V.bl)) ∧ Same H G) ⟨upd_same, same_new hD⟩ (fun _ _ _ _ => trivial) ?_ ?_
  · rintro i x G G' hi ⟨hG, sG⟩ ⟨rfl, c, hc, rfl⟩
    walk_at "rd"
    refine ⟨rfl, ?_⟩
    walk_at "rd"
    refine ⟨c, rfl, hs c ?_, ?_⟩
    · exact Array.mem_toList_iff.mpr (Array.mem_of_getElem? hc)
    refine ⟨_, hG, ?_, ?_, same_mut sG hD⟩
    · rw [List.length_map, List.length_replicate]
      exact Nat.lt_trans hi (Nat.lt_of_le_of_lt hl (by rw [sizeLine_eq]; decide))
    · rw [upd_same, List.replicate_succ', List.map_append]
      rfl
  rintro G ⟨hG, sG⟩
  walk_at "rd"
  refine r_all (ql hG) ?_
  rw [show (List.replicate z.cps.size true).all id = true by simp]
  walk_at "rd"
  refine r_dist (by exact Nat.lt_succ_self 1) ?_
  walk_at "rd"
  refine ⟨z, rfl, hl, fun H2 s2 => ?_⟩
  walk_at "rd"
  refine r_lenUS (Nat.le_trans hl (by rw [sizeLine_eq]; decide)) ?_
  walk_at "rd"
  rw [uniq_nodup hn, Array.length_toList, decide_eq_true (show ((z.cps.size : Nat) : Int) = (z.length : Nat) from rfl)]
  exact q _ (sG.trans s2)
theorem ok_are_signs (T : Txt K mg) : FnOk P w K mg base CX0 2 T.are_signs_a T.are_signs_d ["value"] (sp_are_signs T) := by
  refine T.are_signs_f.ok sc_are_signs (fun vs H Q E h => len_are_signs T vs H Q E h) (fun cdv A outer s H vs Q E hr h => ⟨t_are_signs T, PSs.nox ?_, pure_are_signs T vs H Q E h⟩)
  have hu := hu64 hr
  exact (pss_cons (ps_if (PW.pt (pw_or (pt_not (pt_val (pe_callB call_isi (by rfl) T.n_isinstance (by decide +kernel) (pa_cons (pv 0) (pa_cons (pe_bltn (v := .ty "str") (by rfl) T.n_str (by decide +kernel) rfl) pa_nil))))) (pw_or1 (pt_not (pt_val (pe_callB (cr_all rfl) (by rfl) T.n_all (by decide +kernel) (pa_cons (pe_lc (own := [("character", 1)]) (g := (gName 1)) (tt := tYes) rfl sc_are_signs.nd (pi_seqU (pv 0)) (blkOk_by (own := [("character", 1)]) (N := ["value", "character"]) (sc := defScope s_are_signs) (by decide +kernel)) (fun _ _ _ _ _ => (pg_name (i := 1) sc_are_signs.nd rfl (.inl rfl))) (fun _ _ _ _ _ => pts_nil) (fun _ _ _ _ _ => (pe_call (ok_is_sign T) (hr.mono (by decide)) (by rfl) T.is_sign_g T.is_sign_f.kp T.is_sign_b .nil pass0 (pa_cons (pv 1) pa_nil)))) pa_nil))))))) (pss_one (ps_ret pe_bl)) pss_nil)
      (pss_one (ps_ret (pe_cmpR (op_eqU hu) (pe_distinct (fun σ H P P' f ⟨v, e, q⟩ => ⟨v, e, f _ _ q⟩) (pe_callB call_lenT (by rfl) T.n_len (by decide +kernel) (pa_cons (pe_scT (own := [("character", 1)]) (g := gName 1) (tt := tYes) rfl sc_are_signs.nd (pi_seqU (pv 0)) (blkOk_by (own := [("character", 1)]) (N := ["value", "character"]) (sc := defScope s_are_signs) (by decide +kernel)) (fun _ _ _ _ _ => (pg_name (i := 1) sc_are_signs.nd rfl (.inl rfl))) (fun _ _ _ _ _ => pts_nil) (fun _ _ _ _ _ => (pv 1))) pa_nil))) (pe_callB c_lenU (by rfl) T.n_len (by decide +kernel) (pa_cons (pv 0) pa_nil)) (nomark _)))))


end
section
variable {P : Program} {w : World} {K : PySem.W.Frag} {mg : Str → Option Value} {base : Heap}
/-! ### data -/
def Byts (xs : List Int) : Prop := ∀ x ∈ xs, 0 ≤ x ∧ x ≤ 255
def sp_data_of (T : Txt K mg) : Sp := fun vs H Q _ => ∃ (p : Addr) (xs : List Int), vs = [.ref p] ∧ H p = some (.lst (xs.map V.int)) ∧ xs.length ≤ 600 ∧ Byts xs ∧
  ∀ r H', Same H H' → H r = none → H' r = some (.lst (xs.map V.int)) → Q (.ref r) H'
theorem len_data_of (T : Txt K mg) (vs : List V) (H : Hp) (Q : VK) (E : XK) (h : sp_data_of T vs H Q E) : vs.length = 1 := by
  obtain ⟨_, _, rfl, _⟩ := h
  rfl
theorem at_int {xs : List Int} {i : Nat} {x : V} (h : (xs.map V.int)[i]? = some x) : ∃ z, xs[i]? = some z ∧ x = .int z := by
  rw [List.getElem?_map] at h
  cases e : xs[i]? with
  | none => rw [e] at h; cases h
  | some a => rw [e] at h; exact ⟨a, rfl, (Option.some.inj h).symm⟩
def t_data_of (T : Txt K mg) : TS := (tSeq (tIfS (tOr (tNot (tB (tCB (rIsiT K) (tCons (tVar 0) (tCons (tTup (tCons (tC (.ty "list")) (tCons (tC (.ty "tuple")) tNil))) tNil))))) (tTest (tOp rGtI (tCB (rLenU K) (tCons (tVar 0) tNil)) (tC (.int 600))))) tNever tNext)
    (tSeq (tFor (iEnumU K (tCons (tVar 0) tNil)) (gTup K 2 (gCons (gName 1) (gCons (gName 2) gNil))) (tIfS (tNot (tB (tCall (sp_is_byte T) [] E0 (tCons (tVar 2) tNil)))) tNever tNext))
    (tRet (tCB (rListOf K) (tCons (tVar 0) tNil)))))

theorem pure_data_of (T : Txt K mg) (vs : List V) (H : Hp) (Q : VK) (E : XK) (h : sp_data_of T vs H Q E) : t_data_of T { nx := fun _ H' => Q .non H', rt := Q } (start ["value", "index", "byte"] vs) H := by
  obtain ⟨p, xs, rfl, hp, hl, hb, q⟩ := h
  unfold t_data_of
  walk_at "rd"
  refine And.intro (by walk_at "sz") ?_
  intro t nt
  generalize hg : upd _ t _ = Hn
  have hs := same_of hg nt
  have hv := at_of hg
  clear hg
  have hp1 : Hn p = some (.lst (xs.map V.int)) := hs _ _ hp
  walk_at "rd"
  refine r_isiTL hp1 hv ?_
  walk_at "rd"
  refine r_iteD (fun h => absurd h (by rw [List.length_map]; omega)) (fun _ => ?_)
  walk_at "rd"
  refine r_enumL ?_
  walk_at "rd"
  refine ⟨p, _, rfl, ql hp1, ?_⟩
  refine f_it (walk_enum (K := K) (a := p) (xs := xs.map V.int)) (fun i σ G => ∃ v1 v2, σ = [some (.ref p), v1, v2] ∧ Same Hn G) ⟨none, none, rfl, Same.refl Hn⟩ (fun i σ G _ h => by
    obtain ⟨_, _, _, s⟩ := h
    exact ql (s _ _ hp1)) ?_ ?_
  · rintro i x σ G G' hi ⟨v1, v2, rfl, sG⟩ ⟨Tp, a, b, rfl, nT, hG', ea, eb⟩
    have hsT := same_of hG'.symm nT
    have hvT := at_of hG'.symm
    clear hG'
    cases ea
    obtain ⟨z, hz, rfl⟩ := at_int eb
    have bz := hb z (List.mem_of_getElem? hz)
    walk_at "rd"
    refine ⟨z, rfl, ?_⟩
    rw [decide_eq_true bz.1, decide_eq_true bz.2]
    walk_at "rd"
    exact ⟨_, _, rfl, sG.trans hsT⟩
  · rintro σ G ⟨v1, v2, rfl, sG⟩
    have hp2 : G p = some (.lst (xs.map V.int)) := sG _ _ hp1
    walk_at "rd"
    intro r nr
    generalize hg : upd _ r _ = Hr
    have hsr := same_of hg nr
    have hvr := at_of hg
    exact q r Hr (hs.trans (sG.trans hsr)) ((hs.trans sG).free nr) hvr
theorem ok_data_of (T : Txt K mg) : FnOk P w K mg base CX0 4 T.data_of_a T.data_of_d ["value"] (sp_data_of T) := by
  refine T.data_of_f.ok sc_data_of (fun vs H Q E h => len_data_of T vs H Q E h) (fun cdv A outer s H vs Q E hr h => ⟨t_data_of T, PSs.nox ?_, pure_data_of T vs H Q E h⟩)
  have hu := hu64 hr
  exact (pss_cons (ps_if (PW.pt (pw_or (pt_not (pt_val (pe_callB call_isiT (by rfl) T.n_isinstance (by decide +kernel) (pa_cons (pv 0) (pa_cons (pe_tup (pa_cons (pe_bltn (v := .ty "list") (by rfl) T.n_list (by decide +kernel) rfl) (pa_cons (pe_bltn (v := .ty "tuple") (by rfl) T.n_tuple (by decide +kernel) rfl) pa_nil))) pa_nil))))) (pw_or1 (pt_cmpR op_gt (pe_callB c_lenU (by rfl) T.n_len (by decide +kernel) (pa_cons (pv 0) pa_nil)) (pe_glob (by rfl) T.k_MOST_BYTES_g T.k_MOST_BYTES_r) (nomark _))))) (pss_one ps_never) pss_nil)
      (pss_cons (ps_for PassesOwn.never rfl (pi_enumU (by rfl) T.n_enumerate (pa_cons (pv 0) pa_nil)) (pg_tup (by rfl) (pgs_cons (pg_name (i := 1) sc_data_of.nd rfl (.inl rfl)) (pgs_cons (pg_name (i := 2) sc_data_of.nd rfl (.inl rfl)) pgs_nil))) (pss_one (ps_if (pt_not (pt_val (pe_call (ok_is_byte T) (hr.mono (by decide)) (by rfl) T.is_byte_g T.is_byte_f.kp T.is_byte_b .nil pass0 (pa_cons (pv 2) pa_nil)))) (pss_one ps_never) pss_nil)))
      (pss_one (ps_ret (pe_callTy call_list_of (by rfl) T.n_list (by decide +kernel) (pa_cons (pv 0) pa_nil))))))

/-! ### a code -/
structure CodeD where
  sg : Str
  pd : Str
  wd : Nat
  sb : Nat
structure CodeD.Ok (c : CodeD) : Prop where
  b1 : 1 ≤ c.sb
  b6 : c.sb ≤ 6
  ln : c.sg.length = 2 ^ c.sb
  sgs : Sgs c.sg
  pds : Sgs c.pd
  pl : c.pd.length ≤ 1
  wd76 : c.wd ≤ 76
def CodeAt (T : Txt K mg) (H : Hp) (a : Addr) (c : CodeD) : Prop := c.Ok ∧ ∃ dx tp dg, H a = some (.ins T.C_Code dx [("parts", .ref tp), ("digits", .ref dg), ("sign_bits", .int c.sb)]) ∧ H tp = some (.tup [.str c.sg, .str c.pd, .int c.wd])
theorem CodeAt.same {T : Txt K mg} {H H' : Hp} {a : Addr} {c : CodeD} (h : CodeAt T H a c) (s : Same H H') : CodeAt T H' a c := by
  obtain ⟨o, dx, tp, dg, h1, h2⟩ := h
  exact ⟨o, dx, tp, dg, s _ _ h1, s _ _ h2⟩
/-- a getter's promise -/
def spG (T : Txt K mg) (g : CodeD → V) : Sp := fun vs H Q _ => ∃ a c, vs = [.ref a] ∧ CodeAt T H a c ∧ Q (g c) H
theorem len_spG (T : Txt K mg) (g : CodeD → V) (vs : List V) (H : Hp) (Q : VK) (E : XK) (h : spG T g vs H Q E) : vs.length = 1 := by
  obtain ⟨_, _, rfl, _⟩ := h
  rfl
abbrev sp_Code_signs (T : Txt K mg) : Sp := spG T fun c => .str c.sg
abbrev sp_Code_pad (T : Txt K mg) : Sp := spG T fun c => .str c.pd
abbrev sp_Code_width (T : Txt K mg) : Sp := spG T fun c => .int c.wd
abbrev sp_Code_bits (T : Txt K mg) : Sp := spG T fun c => .int c.sb
def grp (b : Nat) : Nat := [0, 8, 4, 8, 2, 8, 4].getD b 0
theorem grp_at {n : Nat} (h : n ≤ 6) : atI [V.int 0, V.int 8, V.int 4, V.int 8, V.int 2, V.int 8, V.int 4] (n : Int) = some (V.int (grp n : Nat)) := by
  have e : n = 0 ∨ n = 1 ∨ n = 2 ∨ n = 3 ∨ n = 4 ∨ n = 5 ∨ n = 6 := by omega
  rcases e with rfl | rfl | rfl | rfl | rfl | rfl | rfl <;> rfl
abbrev sp_Code_group (T : Txt K mg) : Sp := spG T fun c => .int (grp c.sb : Nat)
theorem len_Code_signs (T : Txt K mg) (vs : List V) (H : Hp) (Q : VK) (E : XK) (h : sp_Code_signs T vs H Q E) : vs.length = 1 := len_spG T _ vs H Q E h
theorem len_Code_pad (T : Txt K mg) (vs : List V) (H : Hp) (Q : VK) (E : XK) (h : sp_Code_pad T vs H Q E) : vs.length = 1 := len_spG T _ vs H Q E h
theorem len_Code_width (T : Txt K mg) (vs : List V) (H : Hp) (Q : VK) (E : XK) (h : sp_Code_width T vs H Q E) : vs.length = 1 := len_spG T _ vs H Q E h
theorem len_Code_bits (T : Txt K mg) (vs : List V) (H : Hp) (Q : VK) (E : XK) (h : sp_Code_bits T vs H Q E) : vs.length = 1 := len_spG T _ vs H Q E h
theorem len_Code_group (T : Txt K mg) (vs : List V) (H : Hp) (Q : VK) (E : XK) (h : sp_Code_group T vs H Q E) : vs.length = 1 := len_spG T _ vs H Q E h
theorem r_parts {T : Txt K mg} {σ : S} {H : Hp} {Q : VK} {i : Nat} {a : Addr} {c : CodeD} (h0 : σ[i]? = some (some (.ref a))) (hc : CodeAt T H a c) (k : ∀ tp, H tp = some (.tup [.str c.sg, .str c.pd, .int c.wd]) → Q (.ref tp) H) : tFld K (tVar i) "parts" σ H Q := by
  refine ⟨_, h0, ?_⟩
  obtain ⟨o, dx, tp, dg, h1, h2⟩ := hc
  exact ⟨a, _, dx, _, .ref tp, rfl, h1, T.C_Code_c, T.C_Code_n_parts, rfl, k tp h2⟩
theorem r_bits {T : Txt K mg} {σ : S} {H : Hp} {Q : VK} {i : Nat} {a : Addr} {c : CodeD} (h0 : σ[i]? = some (some (.ref a))) (hc : CodeAt T H a c) (k : Q (.int c.sb) H) : tFld K (tVar i) "sign_bits" σ H Q := by
  refine ⟨_, h0, ?_⟩
  obtain ⟨o, dx, tp, dg, h1, h2⟩ := hc
  exact ⟨a, _, dx, _, .int c.sb, rfl, h1, T.C_Code_c, T.C_Code_n_sign_bits, rfl, k⟩
def t_Code_signs (T : Txt K mg) : TS := (tRet (tOp (rIx K) (tFld K (tVar 0) "parts") (tC (.int 0))))

theorem pure_Code_signs (T : Txt K mg) (vs : List V) (H : Hp) (Q : VK) (E : XK) (h : sp_Code_signs T vs H Q E) : t_Code_signs T { nx := fun _ H' => Q .non H', rt := Q } (start ["self"] vs) H := by
  obtain ⟨a, c, rfl, hc, q⟩ := h
  unfold t_Code_signs
  walk_at "rd"
  refine r_parts rfl hc fun tp ht => ?_
  walk_at "rd"
  exact q
theorem ok_Code_signs (T : Txt K mg) : FnOk P w K mg base CX0 1 T.Code_signs_a T.Code_signs_d ["self"] (sp_Code_signs T) := by
  refine T.Code_signs_f.ok sc_Code_signs (fun vs H Q E h => len_Code_signs T vs H Q E h) (fun cdv A outer s H vs Q E hr h => ⟨t_Code_signs T, PSs.nox ?_, pure_Code_signs T vs H Q E h⟩)
  have hu := hu64 hr
  exact (pss_one (ps_ret (pe_ix ix_seq (pe_fld (pv 0) rfl) pe_int (fun _ _ => rfl))))

def t_Code_pad (T : Txt K mg) : TS := (tRet (tOp (rIx K) (tFld K (tVar 0) "parts") (tC (.int 1))))

theorem pure_Code_pad (T : Txt K mg) (vs : List V) (H : Hp) (Q : VK) (E : XK) (h : sp_Code_pad T vs H Q E) : t_Code_pad T { nx := fun _ H' => Q .non H', rt := Q } (start ["self"] vs) H := by
  obtain ⟨a, c, rfl, hc, q⟩ := h
  unfold t_Code_pad
  walk_at "rd"
  refine r_parts rfl hc fun tp ht => ?_
  walk_at "rd"
  exact q
theorem ok_Code_pad (T : Txt K mg) : FnOk P w K mg base CX0 1 T.Code_pad_a T.Code_pad_d ["self"] (sp_Code_pad T) := by
  refine T.Code_pad_f.ok sc_Code_pad (fun vs H Q E h => len_Code_pad T vs H Q E h) (fun cdv A outer s H vs Q E hr h => ⟨t_Code_pad T, PSs.nox ?_, pure_Code_pad T vs H Q E h⟩)
  have hu := hu64 hr
  exact (pss_one (ps_ret (pe_ix ix_seq (pe_fld (pv 0) rfl) pe_int (fun _ _ => rfl))))

def t_Code_width (T : Txt K mg) : TS := (tRet (tOp (rIx K) (tFld K (tVar 0) "parts") (tC (.int 2))))

theorem pure_Code_width (T : Txt K mg) (vs : List V) (H : Hp) (Q : VK) (E : XK) (h : sp_Code_width T vs H Q E) : t_Code_width T { nx := fun _ H' => Q .non H', rt := Q } (start ["self"] vs) H := by
  obtain ⟨a, c, rfl, hc, q⟩ := h
  unfold t_Code_width
  walk_at "rd"
  refine r_parts rfl hc fun tp ht => ?_
  walk_at "rd"
  exact q
theorem ok_Code_width (T : Txt K mg) : FnOk P w K mg base CX0 1 T.Code_width_a T.Code_width_d ["self"] (sp_Code_width T) := by
  refine T.Code_width_f.ok sc_Code_width (fun vs H Q E h => len_Code_width T vs H Q E h) (fun cdv A outer s H vs Q E hr h => ⟨t_Code_width T, PSs.nox ?_, pure_Code_width T vs H Q E h⟩)
  have hu := hu64 hr
  exact (pss_one (ps_ret (pe_ix ix_seq (pe_fld (pv 0) rfl) pe_int (fun _ _ => rfl))))

def t_Code_bits (T : Txt K mg) : TS := (tRet (tFld K (tVar 0) "sign_bits"))

theorem pure_Code_bits (T : Txt K mg) (vs : List V) (H : Hp) (Q : VK) (E : XK) (h : sp_Code_bits T vs H Q E) : t_Code_bits T { nx := fun _ H' => Q .non H', rt := Q } (start ["self"] vs) H := by
  obtain ⟨a, c, rfl, hc, q⟩ := h
  unfold t_Code_bits
  walk_at "rd"
  exact r_bits rfl hc q
theorem ok_Code_bits (T : Txt K mg) : FnOk P w K mg base CX0 1 T.Code_bits_a T.Code_bits_d ["self"] (sp_Code_bits T) := by
  refine T.Code_bits_f.ok sc_Code_bits (fun vs H Q E h => len_Code_bits T vs H Q E h) (fun cdv A outer s H vs Q E hr h => ⟨t_Code_bits T, PSs.nox ?_, pure_Code_bits T vs H Q E h⟩)
  have hu := hu64 hr
  exact (pss_one (ps_ret (pe_fld (pv 0) rfl)))

def t_Code_group (T : Txt K mg) : TS := (tRet (tOp (rIx K) (tC (.ref T.k_GROUPS_a)) (tFld K (tVar 0) "sign_bits")))

theorem pure_Code_group (T : Txt K mg) (vs : List V) (H : Hp) (Q : VK) (E : XK) (h : sp_Code_group T vs H Q E) : t_Code_group T { nx := fun _ H' => Q .non H', rt := Q } (start ["self"] vs) H := by
  obtain ⟨a, c, rfl, hc, q⟩ := h
  unfold t_Code_group
  walk_at "rd"
  refine r_bits rfl hc ?_
  exact r_ixT (T.k_GROUPS_t H) (grp_at hc.1.b6) q
theorem ok_Code_group (T : Txt K mg) : FnOk P w K mg base CX0 1 T.Code_group_a T.Code_group_d ["self"] (sp_Code_group T) := by
  refine T.Code_group_f.ok sc_Code_group (fun vs H Q E h => len_Code_group T vs H Q E h) (fun cdv A outer s H vs Q E hr h => ⟨t_Code_group T, PSs.nox ?_, pure_Code_group T vs H Q E h⟩)
  have hu := hu64 hr
  exact (pss_one (ps_ret (pe_ix ix_seq (pe_glob (by rfl) T.k_GROUPS_g rfl) (pe_fld (pv 0) rfl) (fun _ _ => rfl))))

/-! ### steps over a code -/
theorem r_get {T : Txt K mg} {g : CodeD → V} {σ : S} {H : Hp} {Q : VK} {i : Nat} {a : Addr} {c : CodeD} (h0 : σ[i]? = some (some (.ref a))) (hc : CodeAt T H a c) (h : Q (g c) H) : tProp T.C_Code (spG T g) [] E0 (tVar i) σ H Q := by
  refine ⟨_, h0, ?_⟩
  have hc' := hc
  obtain ⟨o, dx, tp, dg, h1, h2⟩ := hc'
  exact ⟨a, dx, _, rfl, h1, a, c, rfl, hc, h⟩
theorem r_methC {T : Txt K mg} {m : Str} {sp : Sp} {σ : S} {H : Hp} {Q : VK} {E : XK} {i : Nat} {a : Addr} {c : CodeD} {tr : TA} (h0 : σ[i]? = some (some (.ref a))) (hc : CodeAt T H a c)
    (hm : ∀ v1 v2 v3 : V, ([("parts", v1), ("digits", v2), ("sign_bits", v3)] : List (Str × V)).lookup m = none) (h : tr σ H fun vs H2 => sp (.ref a :: (vs ++ [])) H2 Q E) : tMeth T.C_Code m sp [] E (tVar i) tr σ H Q := by
  refine ⟨_, h0, ?_⟩
  obtain ⟨o, dx, tp, dg, h1, h2⟩ := hc
  exact ⟨a, dx, _, rfl, h1, hm _ _ _, h⟩

end
section
variable {P : Program} {w : World} {K : PySem.W.Frag} {mg : Str → Option Value} {base : Heap}
local macro_rules | `(tactic| walk_at "hc") => `(tactic| first
  | assumption
  | ((refine CodeAt.same (H := ?xH) ?xb ?xa); (case xa => assumption); (case xb => walk_at "hc")))
local macro_rules | `(tactic| walk_at "rd0") => `(tactic| first
  | ((with_reducible refine r_get (a := ?xa) (c := ?xc) ?x1 ?x2 ?_); (case x1 => rfl); (case x2 => walk_at "hc"))
  | ((with_reducible refine r_methC (a := ?xa) (c := ?xc) ?x1 ?x2 ?x3 ?_); (case x1 => rfl); (case x2 => walk_at "hc"); (case x3 => (intro _ _ _; rfl)))
  | (with_reducible refine r_fmtB ?_)
  | (with_reducible refine r_dget ?_)
  | (with_reducible refine r_m0 ?_)
  | (with_reducible refine r_makeK ?_)
  | (with_reducible refine r_cval ?_)
  | (with_reducible refine r_sfld ?_)
  | (with_reducible refine r_isiI ?_)
  | (with_reducible refine r_isiIB ?_)
  | (with_reducible refine r_isiS ?_)
  | (with_reducible refine r_inID ?_))

/-! ### where a sign goes -/
def CodeD.full (c : CodeD) (col : Nat) : Bool := decide (0 < c.wd) && decide (col = c.wd)
def CodeD.nxt (c : CodeD) (col : Nat) : Nat := if 0 < c.wd then col + 1 else 0
def CodeD.plc (c : CodeD) (col s : Nat) : List Nat × Nat := if c.full col = true then ([10, s], 1) else ([s], c.nxt col)
def sp_Code_begin (T : Txt K mg) : Sp := fun vs H Q _ => ∃ a c, vs = [.ref a] ∧ CodeAt T H a c ∧ ∀ p H', Same H H' → H p = none → H' p = some (.tup [.str (Str.ofString ""), .int 0, .int 0]) → Q (.ref p) H'
theorem len_Code_begin (T : Txt K mg) (vs : List V) (H : Hp) (Q : VK) (E : XK) (h : sp_Code_begin T vs H Q E) : vs.length = 1 := by
  obtain ⟨_, _, rfl, _⟩ := h
  rfl
def t_Code_begin (T : Txt K mg) : TS := (tRet (tTup (tCons (tC (.str (Str.ofString ""))) (tCons (tC (.int 0)) (tCons (tC (.int 0)) tNil)))))

theorem pure_Code_begin (T : Txt K mg) (vs : List V) (H : Hp) (Q : VK) (E : XK) (h : sp_Code_begin T vs H Q E) : t_Code_begin T { nx := fun _ H' => Q .non H', rt := Q } (start ["self"] vs) H := by
  obtain ⟨a, c, rfl, hc, q⟩ := h
  unfold t_Code_begin
  walk_at "rd"
  walk_at "new"
  exact q p Hn hs np hv
theorem ok_Code_begin (T : Txt K mg) : FnOk P w K mg base CX0 1 T.Code_begin_a T.Code_begin_d ["self"] (sp_Code_begin T) := by
  refine T.Code_begin_f.ok sc_Code_begin (fun vs H Q E h => len_Code_begin T vs H Q E h) (fun cdv A outer s H vs Q E hr h => ⟨t_Code_begin T, PSs.nox ?_, pure_Code_begin T vs H Q E h⟩)
  have hu := hu64 hr
  exact (pss_one (ps_ret (pe_tup (pa_cons pe_str (pa_cons pe_int (pa_cons pe_int pa_nil))))))

def sp_Code_is_full (T : Txt K mg) : Sp := fun vs H Q _ => ∃ a c, ∃ n : Nat, vs = [.ref a, .int n] ∧ CodeAt T H a c ∧ Q (.bl (c.full n)) H
theorem len_Code_is_full (T : Txt K mg) (vs : List V) (H : Hp) (Q : VK) (E : XK) (h : sp_Code_is_full T vs H Q E) : vs.length = 2 := by
  obtain ⟨_, _, _, rfl, _⟩ := h
  rfl
def t_Code_is_full (T : Txt K mg) : TS := (tRet (tAndV (tOp rGtI (tProp T.C_Code (sp_Code_width T) [] E0 (tVar 0)) (tC (.int 0))) (tOp (rEqU K) (tVar 1) (tProp T.C_Code (sp_Code_width T) [] E0 (tVar 0)))))

theorem pure_Code_is_full (T : Txt K mg) (vs : List V) (H : Hp) (Q : VK) (E : XK) (h : sp_Code_is_full T vs H Q E) : t_Code_is_full T { nx := fun _ H' => Q .non H', rt := Q } (start ["self", "column"] vs) H := by
  obtain ⟨a, c, n, rfl, hc, q⟩ := h
  unfold t_Code_is_full
  unfold CodeD.full at q
  walk_at "rd"
  refine r_iteD (fun h => ?_) (fun h => ?_)
  · rw [decide_eq_true (show 0 < c.wd by omega), Bool.true_and] at q
    walk_at "rd"
    by_cases e : n = c.wd
    · rw [decide_eq_true e] at q
      rw [decide_eq_true (show (n : Int) = (c.wd : Int) by omega)]
      exact q
    · rw [decide_eq_false e] at q
      rw [decide_eq_false (show ¬ (n : Int) = (c.wd : Int) by omega)]
      exact q
  · rw [decide_eq_false (show ¬ 0 < c.wd by omega), Bool.false_and] at q
    exact q
theorem ok_Code_is_full (T : Txt K mg) : FnOk P w K mg base CX0 3 T.Code_is_full_a T.Code_is_full_d ["self", "column"] (sp_Code_is_full T) := by
  refine T.Code_is_full_f.ok sc_Code_is_full (fun vs H Q E h => len_Code_is_full T vs H Q E h) (fun cdv A outer s H vs Q E hr h => ⟨t_Code_is_full T, PSs.nox ?_, pure_Code_is_full T vs H Q E h⟩)
  have hu := hu64 hr
  exact (pss_one (ps_ret (pe_and (pe_cmpR op_gt (pe_prop (pv 0) T.C_Code_c T.Code_width_p (ok_Code_width T) (hr.mono (by decide)) T.Code_width_b .nil pass0 rfl) pe_int (nomark _)) (pe_one (pe_cmpR (op_eqU hu) (pv 1) (pe_prop (pv 0) T.C_Code_c T.Code_width_p (ok_Code_width T) (hr.mono (by decide)) T.Code_width_b .nil pass0 rfl) (nomark _))))))

def sp_Code_next_column (T : Txt K mg) : Sp := fun vs H Q _ => ∃ a c, ∃ n : Nat, vs = [.ref a, .int n] ∧ CodeAt T H a c ∧ Q (.int (c.nxt n : Nat)) H
theorem len_Code_next_column (T : Txt K mg) (vs : List V) (H : Hp) (Q : VK) (E : XK) (h : sp_Code_next_column T vs H Q E) : vs.length = 2 := by
  obtain ⟨_, _, _, rfl, _⟩ := h
  rfl
def t_Code_next_column (T : Txt K mg) : TS := (tRet (tIf (tTest (tOp rGtI (tProp T.C_Code (sp_Code_width T) [] E0 (tVar 0)) (tC (.int 0)))) (tOp (rAddU K) (tVar 1) (tC (.int 1))) (tC (.int 0))))

theorem pure_Code_next_column (T : Txt K mg) (vs : List V) (H : Hp) (Q : VK) (E : XK) (h : sp_Code_next_column T vs H Q E) : t_Code_next_column T { nx := fun _ H' => Q .non H', rt := Q } (start ["self", "column"] vs) H := by
  obtain ⟨a, c, n, rfl, hc, q⟩ := h
  unfold t_Code_next_column
  unfold CodeD.nxt at q
  walk_at "rd"
  refine r_iteD (fun h => ?_) (fun h => ?_)
  · rw [if_pos (show 0 < c.wd by omega)] at q
    walk_at "rd"
    exact q
  · rw [if_neg (show ¬ 0 < c.wd by omega)] at q
    walk_at "rd"
    exact q
theorem ok_Code_next_column (T : Txt K mg) : FnOk P w K mg base CX0 3 T.Code_next_column_a T.Code_next_column_d ["self", "column"] (sp_Code_next_column T) := by
  refine T.Code_next_column_f.ok sc_Code_next_column (fun vs H Q E h => len_Code_next_column T vs H Q E h) (fun cdv A outer s H vs Q E hr h => ⟨t_Code_next_column T, PSs.nox ?_, pure_Code_next_column T vs H Q E h⟩)
  have hu := hu64 hr
  exact (pss_one (ps_ret (pe_ifExp (pt_cmpR op_gt (pe_prop (pv 0) T.C_Code_c T.Code_width_p (ok_Code_width T) (hr.mono (by decide)) T.Code_width_b .nil pass0 rfl) pe_int (nomark _)) (pe_op op_addU (pv 1) pe_int) pe_int)))

def tx (l : List Nat) : Str := ⟨l.toArray⟩
theorem tx_len (l : List Nat) : (tx l).length = l.length := by
  show l.toArray.size = _
  simp
theorem tx_list (l : List Nat) : (tx l).cps.toList = l := by simp [tx]
theorem tx_app (a b : List Nat) : tx a ++ tx b = tx (a ++ b) := by
  show (⟨a.toArray ++ b.toArray⟩ : Str) = ⟨(a ++ b).toArray⟩
  simp
theorem nl_tx : Str.ofString "\n" = tx [10] := rfl
theorem e_tx : Str.ofString "" = tx [] := rfl
def sp_Code_placed (T : Txt K mg) : Sp := fun vs H Q _ => ∃ a c, ∃ n s : Nat, vs = [.ref a, .int n, .str (tx [s])] ∧ CodeAt T H a c ∧
  ∀ p H', Same H H' → H p = none → H' p = some (.tup [.str (tx (c.plc n s).1), .int ((c.plc n s).2 : Nat)]) → Q (.ref p) H'
theorem len_Code_placed (T : Txt K mg) (vs : List V) (H : Hp) (Q : VK) (E : XK) (h : sp_Code_placed T vs H Q E) : vs.length = 3 := by
  obtain ⟨_, _, _, _, rfl, _⟩ := h
  rfl
def t_Code_placed (T : Txt K mg) : TS := (tSeq (tIfS (tB (tMeth T.C_Code "is_full" (sp_Code_is_full T) [] E0 (tVar 0) (tCons (tVar 1) tNil))) (tRet (tTup (tCons (tOp (rAddU K) (tC (.str (Str.ofString "\n"))) (tVar 2)) (tCons (tC (.int 1)) tNil)))) tNext)
    (tRet (tTup (tCons (tVar 2) (tCons (tMeth T.C_Code "next_column" (sp_Code_next_column T) [] E0 (tVar 0) (tCons (tVar 1) tNil)) tNil)))))

theorem pure_Code_placed (T : Txt K mg) (vs : List V) (H : Hp) (Q : VK) (E : XK) (h : sp_Code_placed T vs H Q E) : t_Code_placed T { nx := fun _ H' => Q .non H', rt := Q } (start ["self", "column", "sign"] vs) H := by
  obtain ⟨a, c, n, s, rfl, hc, q⟩ := h
  unfold t_Code_placed
  unfold CodeD.plc at q
  walk_at "rd"
  refine ⟨a, c, n, rfl, hc, ?_⟩
  walk_at "rd"
  refine r_iteB (fun h => ?_) (fun h => ?_)
  · rw [if_pos h] at q
    walk_at "rd"
    refine r_addUS (by rw [nl_tx, tx_len, tx_len]; show 2 ≤ sizeLine; decide) ?_
    rw [nl_tx, tx_app]
    walk_at "rd"
    walk_at "new"
    exact q p Hn hs np hv
  · rw [if_neg (by rw [h]; exact Bool.false_ne_true)] at q
    walk_at "rd"
    refine ⟨a, c, n, rfl, hc, ?_⟩
    walk_at "rd"
    walk_at "new"
    exact q p Hn hs np hv
theorem ok_Code_placed (T : Txt K mg) : FnOk P w K mg base CX0 4 T.Code_placed_a T.Code_placed_d ["self", "column", "sign"] (sp_Code_placed T) := by
  refine T.Code_placed_f.ok sc_Code_placed (fun vs H Q E h => len_Code_placed T vs H Q E h) (fun cdv A outer s H vs Q E hr h => ⟨t_Code_placed T, PSs.nox ?_, pure_Code_placed T vs H Q E h⟩)
  have hu := hu64 hr
  exact (pss_cons (ps_if (pt_val (pe_meth (pv 0) T.C_Code_c T.Code_is_full_m (ok_Code_is_full T) (hr.mono (by decide)) T.Code_is_full_b .nil pass0 (pa_cons (pv 1) pa_nil))) (pss_one (ps_ret (pe_tup (pa_cons (pe_op op_addU (pe_glob (by rfl) T.k_NEWLINE_g T.k_NEWLINE_r) (pv 2)) (pa_cons pe_int pa_nil))))) pss_nil)
      (pss_one (ps_ret (pe_tup (pa_cons (pv 2) (pa_cons (pe_meth (pv 0) T.C_Code_c T.Code_next_column_m (ok_Code_next_column T) (hr.mono (by decide)) T.Code_next_column_b .nil pass0 (pa_cons (pv 1) pa_nil)) pa_nil))))))


end
section
variable {P : Program} {w : World} {K : PySem.W.Frag} {mg : Str → Option Value} {base : Heap}
local macro_rules | `(tactic| walk_at "hc") => `(tactic| first
  | assumption
  | ((refine CodeAt.same (H := ?xH) ?xb ?xa); (case xa => assumption); (case xb => walk_at "hc")))
local macro_rules | `(tactic| walk_at "rd0") => `(tactic| first
  | ((with_reducible refine r_get (a := ?xa) (c := ?xc) ?x1 ?x2 ?_); (case x1 => rfl); (case x2 => walk_at "hc"))
  | ((with_reducible refine r_methC (a := ?xa) (c := ?xc) ?x1 ?x2 ?x3 ?_); (case x1 => rfl); (case x2 => walk_at "hc"); (case x3 => (intro _ _ _; rfl)))
  | (with_reducible refine r_fmtB ?_)
  | (with_reducible refine r_dget ?_)
  | (with_reducible refine r_m0 ?_)
  | (with_reducible refine r_makeK ?_)
  | (with_reducible refine r_cval ?_)
  | (with_reducible refine r_sfld ?_)
  | (with_reducible refine r_isiI ?_)
  | (with_reducible refine r_isiIB ?_)
  | (with_reducible refine r_isiS ?_)
  | (with_reducible refine r_inID ?_))

/-! ### what a byte writes -/
theorem sIx_le_nat {n d k : Nat} {i : Int} (hi : i = (k : Int)) (h : k ≤ n) : HT.sIx n d (some i) = k := by
  rw [hi, HT.sIx_nat]
  omega
theorem cut_take {l : List Nat} {k : Nat} (h : k ≤ l.length) : cutS (tx l) none (some (k : Int)) = tx (l.take k) := by
  unfold cutS
  rw [tx_len, HT.sIx_none, sIx_le_nat rfl h, tx_list]
  rfl
theorem cut_drop {l : List Nat} {k : Nat} (h : k ≤ l.length) : cutS (tx l) (some (k : Int)) none = tx (l.drop k) := by
  unfold cutS
  rw [tx_len, HT.sIx_none, sIx_le_nat rfl h, tx_list]
  show tx ((l.drop k).take (l.length - k)) = _
  rw [List.take_of_length_le (by rw [List.length_drop]; exact Nat.le_refl _)]
def b8 (n : Nat) : List Nat := [48 + n / 128 % 2, 48 + n / 64 % 2, 48 + n / 32 % 2, 48 + n / 16 % 2, 48 + n / 8 % 2, 48 + n / 4 % 2, 48 + n / 2 % 2, 48 + n % 2]
theorem bin8_tx (n : Nat) : bin8 n = tx (b8 n) := rfl
def Bits (l : List Nat) : Prop := ∀ c ∈ l, Bn.IsBit c
theorem b8_bits (n : Nat) : Bits (b8 n) := by
  have h : ∀ m : Nat, Bn.IsBit (48 + m % 2) := fun m => by unfold Bn.IsBit; omega
  intro c hc
  simp only [b8, List.mem_cons, List.not_mem_nil, or_false] at hc
  rcases hc with rfl | rfl | rfl | rfl | rfl | rfl | rfl | rfl <;> exact h _
theorem Bits.app {a b : List Nat} (h : Bits a) (k : Bits b) : Bits (a ++ b) := fun c hc => (List.mem_append.mp hc).elim (h c) (k c)
theorem Bits.take {a : List Nat} (h : Bits a) (k : Nat) : Bits (a.take k) := fun c hc => h c (List.mem_of_mem_take hc)
theorem Bits.drop {a : List Nat} (h : Bits a) (k : Nat) : Bits (a.drop k) := fun c hc => h c (List.mem_of_mem_drop hc)
theorem bin_go : ∀ (l : List Nat) (a : Nat), Bits l → l.foldl (fun a c => a * 2 + (c - 48)) a < (a + 1) * 2 ^ l.length
  | [], a, _ => by simp
  | x :: l, a, h => by
    have hx : x - 48 ≤ 1 := by
      have := h x (List.mem_cons_self ..)
      unfold Bn.IsBit at this
      omega
    have ih := bin_go l (a * 2 + (x - 48)) fun c hc => h c (List.mem_cons_of_mem _ hc)
    rw [List.foldl_cons, List.length_cons, Nat.pow_succ]
    refine Nat.lt_of_lt_of_le ih ?_
    have : a * 2 + (x - 48) + 1 ≤ (a + 1) * 2 := by omega
    calc (a * 2 + (x - 48) + 1) * 2 ^ l.length ≤ ((a + 1) * 2) * 2 ^ l.length := Nat.mul_le_mul_right _ this
      _ = (a + 1) * (2 ^ l.length * 2) := by rw [Nat.mul_assoc, Nat.mul_comm 2]
theorem bin_lt {l : List Nat} (h : Bits l) : Bn.binNum l < 2 ^ l.length := by
  have := bin_go l 0 h
  rw [Nat.zero_add, Nat.one_mul] at this
  exact this
def sgnOf (c : CodeD) (d : Nat) : Nat := c.sg.cps.toList.getD d 0
def em (c : CodeD) (b : List Nat) : List Nat := if h : 1 ≤ c.sb ∧ c.sb ≤ b.length then sgnOf c (Bn.binNum (b.take c.sb)) :: em c (b.drop c.sb) else []
termination_by b.length
decreasing_by rw [List.length_drop]; omega
def rs (c : CodeD) (b : List Nat) : List Nat := if h : 1 ≤ c.sb ∧ c.sb ≤ b.length then rs c (b.drop c.sb) else b
termination_by b.length
decreasing_by rw [List.length_drop]; omega
theorem em_on {c : CodeD} {b : List Nat} (h1 : 1 ≤ c.sb) (h2 : c.sb ≤ b.length) : em c b = sgnOf c (Bn.binNum (b.take c.sb)) :: em c (b.drop c.sb) := by
  rw [em, dif_pos ⟨h1, h2⟩]
theorem em_off {c : CodeD} {b : List Nat} (h2 : ¬ c.sb ≤ b.length) : em c b = [] := by
  rw [em, dif_neg fun z => h2 z.2]
theorem rs_on {c : CodeD} {b : List Nat} (h1 : 1 ≤ c.sb) (h2 : c.sb ≤ b.length) : rs c b = rs c (b.drop c.sb) := by
  rw [rs, dif_pos ⟨h1, h2⟩]
theorem rs_off {c : CodeD} {b : List Nat} (h2 : ¬ c.sb ≤ b.length) : rs c b = b := by
  rw [rs, dif_neg fun z => h2 z.2]
theorem em_len (c : CodeD) : ∀ (n : Nat) (b : List Nat), b.length ≤ n → (em c b).length ≤ b.length
  | 0, b, h => by
    by_cases e : 1 ≤ c.sb ∧ c.sb ≤ b.length
    · omega
    · rw [em, dif_neg e]; exact Nat.zero_le _
  | n + 1, b, h => by
    by_cases e : 1 ≤ c.sb ∧ c.sb ≤ b.length
    · rw [em_on e.1 e.2, List.length_cons]
      have := em_len c n (b.drop c.sb) (by rw [List.length_drop]; omega)
      rw [List.length_drop] at this
      omega
    · rw [em, dif_neg e]; exact Nat.zero_le _
theorem rs_sub (c : CodeD) : ∀ (n : Nat) (b : List Nat), b.length ≤ n → 1 ≤ c.sb → (rs c b).length < c.sb ∧ ∃ k, rs c b = b.drop k
  | 0, b, h, h1 => by
    have e : ¬ c.sb ≤ b.length := by omega
    rw [rs_off e]
    exact ⟨by omega, 0, rfl⟩
  | n + 1, b, h, h1 => by
    by_cases e : c.sb ≤ b.length
    · rw [rs_on h1 e]
      obtain ⟨i1, k, i2⟩ := rs_sub c n (b.drop c.sb) (by rw [List.length_drop]; omega) h1
      exact ⟨i1, c.sb + k, by rw [i2, List.drop_drop]⟩
    · rw [rs_off e]
      exact ⟨by omega, 0, rfl⟩
def plcs (c : CodeD) : Nat → List Nat → List Nat × Nat
  | col, [] => ([], col)
  | col, s :: r => ((c.plc col s).1 ++ (plcs c (c.plc col s).2 r).1, (plcs c (c.plc col s).2 r).2)
theorem plc_len (c : CodeD) (col s : Nat) : (c.plc col s).1.length ≤ 2 := by
  unfold CodeD.plc
  split <;> simp
theorem plcs_len (c : CodeD) : ∀ (l : List Nat) (col : Nat), (plcs c col l).1.length ≤ 2 * l.length
  | [], _ => Nat.le_refl _
  | s :: r, col => by
    have := plcs_len c r (c.plc col s).2
    have := plc_len c col s
    simp only [plcs, List.length_append, List.length_cons]
    omega
def snN (g sn : Nat) : Nat → Nat
  | 0 => sn
  | n + 1 => snN g ((sn + 1) % g) n
/-- the part, the column behind -/
def wP (c : CodeD) (b : List Nat) (col : Nat) : List Nat × Nat :=
  if rs c b ≠ [] ∧ c.full (plcs c col (em c b)).2 = true then ((plcs c col (em c b)).1 ++ [10], 0) else plcs c col (em c b)
theorem grp_pos {n : Nat} (h1 : 1 ≤ n) (h6 : n ≤ 6) : 0 < grp n := by
  have e : n = 1 ∨ n = 2 ∨ n = 3 ∨ n = 4 ∨ n = 5 ∨ n = 6 := by omega
  rcases e with rfl | rfl | rfl | rfl | rfl | rfl <;> decide
theorem tx_inj {a b : List Nat} (h : tx a = tx b) : a = b := by
  have := congrArg (fun s : Str => s.cps.toList) h
  simpa [tx_list] using this
def StAt (H : Hp) (st : Addr) (b : List Nat) (sn col : Nat) : Prop := H st = some (.tup [.str (tx b), .int sn, .int col])
def sp_Code_write (T : Txt K mg) : Sp := fun vs H Q _ => ∃ a c st, ∃ b : List Nat, ∃ sn col n : Nat, vs = [.ref a, .ref st, .int n] ∧ CodeAt T H a c ∧ StAt H st b sn col ∧ Bits b ∧ b.length < c.sb ∧ n < 256 ∧
  ∀ p s' H', Same H H' → H p = none → H s' = none → H' p = some (.tup [.str (tx (wP c (b ++ b8 n) col).1), .ref s']) → StAt H' s' (rs c (b ++ b8 n)) (snN (grp c.sb) sn (em c (b ++ b8 n)).length) (wP c (b ++ b8 n) col).2 → Q (.ref p) H'
theorem len_Code_write (T : Txt K mg) (vs : List V) (H : Hp) (Q : VK) (E : XK) (h : sp_Code_write T vs H Q E) : vs.length = 3 := by
  obtain ⟨_, _, _, _, _, _, _, rfl, _⟩ := h
  rfl
theorem smallS {n : Nat} (h : n ≤ 100000) : n ≤ sizeLine := small_line (by omega)
def t_Code_write (T : Txt K mg) : TS := (tSeq (tAsg (tVar 1) (gTup K 3 (gCons (gName 3) (gCons (gName 4) (gCons (gName 5) gNil)))))
    (tSeq (tAug 3 (tFmtB bin8 (tVar 2)) (rIaddU K))
    (tSeq (tAsg (tC (.str (Str.ofString ""))) (gName 6))
    (tSeq (tWhile (tTest (tOp rGeI (tCB (rLenU K) (tCons (tVar 3) tNil)) (tProp T.C_Code (sp_Code_bits T) [] E0 (tVar 0)))) (tSeq (tAsg (tMeth T.C_Code "placed" (sp_Code_placed T) [] E0 (tVar 0) (tCons (tVar 5) (tCons (tOp (rIx K) (tProp T.C_Code (sp_Code_signs T) [] E0 (tVar 0)) (tCB rIntBin (tCons (tSl (rSlU K) (tVar 3) tNoPart (tPart (tProp T.C_Code (sp_Code_bits T) [] E0 (tVar 0)))) (tCons (tC (.int 2)) tNil)))) tNil))) (gTup K 2 (gCons (gName 7) (gCons (gName 5) gNil))))
    (tSeq (tAug 6 (tVar 7) (rIaddU K))
    (tSeq (tAsg (tSl (rSlU K) (tVar 3) (tPart (tProp T.C_Code (sp_Code_bits T) [] E0 (tVar 0))) tNoPart) (gName 3))
    (tAsg (tOp rModI (tOp (rAddU K) (tVar 4) (tC (.int 1))) (tProp T.C_Code (sp_Code_group T) [] E0 (tVar 0))) (gName 4))))))
    (tSeq (tIfS (tAnd (tTest (tOp (rNeU K) (tVar 3) (tC (.str (Str.ofString ""))))) (tB (tMeth T.C_Code "is_full" (sp_Code_is_full T) [] E0 (tVar 0) (tCons (tVar 5) tNil)))) (tPar 6 5 (tCons (tOp (rAddU K) (tVar 6) (tC (.str (Str.ofString "\n")))) (tCons (tC (.int 0)) tNil))) tNext)
    (tRet (tTup (tCons (tVar 6) (tCons (tTup (tCons (tVar 3) (tCons (tVar 4) (tCons (tVar 5) tNil)))) tNil)))))))))

theorem pure_Code_write (T : Txt K mg) (vs : List V) (H : Hp) (Q : VK) (E : XK) (h : sp_Code_write T vs H Q E) : t_Code_write T { nx := fun _ H' => Q .non H', rt := Q } (start ["self", "state", "byte", "bits", "signs", "column", "part", "more"] vs) H := by
  obtain ⟨a, c, st, b0, sn, col, n, rfl, hc, hst, hb0, hl0, hn, q⟩ := h
  have ok := hc.1
  have hb1 := ok.b1
  have hb6 := ok.b6
  have gp := grp_pos hb1 hb6
  unfold StAt at hst q
  unfold t_Code_write
  walk_at "rd"
  refine ⟨n, rfl, hn, ?_⟩
  rw [bin8_tx]
  have l8 : (b8 n).length = 8 := rfl
  refine r_iaddS (smallS (by rw [tx_len, tx_len, l8]; omega)) ?_
  rw [tx_app]
  walk_at "rd"
  have hbb : Bits (b0 ++ b8 n) := hb0.app (b8_bits n)
  have hbl : (b0 ++ b8 n).length ≤ 13 := by rw [List.length_append, l8]; omega
  generalize hB : b0 ++ b8 n = B at hbb hbl q
  have P0l : (plcs c col (em c B)).1.length ≤ 26 := by
    have := plcs_len c (em c B) col
    have := em_len c _ B (Nat.le_refl _)
    omega
  refine r_while (fun σ G => ∃ b s col' part v7, σ = [some (.ref a), some (.ref st), some (.int (n : Nat)), some (.str (tx b)), some (.int (s : Nat)), some (.int (col' : Nat)), some (.str (tx part)), v7] ∧ Same H G ∧ Bits b ∧ b.length ≤ 13 ∧
      part ++ (plcs c col' (em c b)).1 = (plcs c col (em c B)).1 ∧ (plcs c col' (em c b)).2 = (plcs c col (em c B)).2 ∧ rs c b = rs c B ∧ snN (grp c.sb) s (em c b).length = snN (grp c.sb) sn (em c B).length)
    (fun σ _ => match σ with | [_, _, _, some (.str z), _, _, _, _] => z.length | _ => 0)
    (fun σ G => ∃ v7, σ = [some (.ref a), some (.ref st), some (.int (n : Nat)), some (.str (tx (rs c B))), some (.int (snN (grp c.sb) sn (em c B).length : Nat)), some (.int ((plcs c col (em c B)).2 : Nat)), some (.str (tx (plcs c col (em c B)).1)), v7] ∧ Same H G)
    ⟨B, sn, col, [], none, rfl, Same.refl H, hbb, hbl, rfl, rfl, rfl, rfl⟩ ?_ ?_
  · rintro σ G ⟨v7, rfl, sG⟩
    have hc1 := hc.same sG
    walk_at "rx"
    refine r_seqC (fun σ G' => ∃ v7, σ = [some (.ref a), some (.ref st), some (.int (n : Nat)), some (.str (tx (rs c B))), some (.int (snN (grp c.sb) sn (em c B).length : Nat)), some (.int ((wP c B col).2 : Nat)), some (.str (tx (wP c B col).1)), v7] ∧ Same H G') ?_ fun N tail => ?_
    · rintro σ G' ⟨v7, rfl, sG'⟩
      walk_at "rd"
      walk_at "new"
      walk_at "rd"
      refine And.intro (by show 2 ≤ sizeLine; decide) ?_
      intro p2 np2
      generalize hg2 : upd _ p2 _ = H2
      have hs2 := same_of hg2 np2
      have hv2 := at_of hg2
      clear hg2
      walk_at "rd"
      exact q p2 p H2 (sG'.trans (hs.trans hs2)) ((sG'.trans hs).free np2) (sG'.free np) hv2 (hs2 _ _ hv)
    · unfold wP at tail
      walk_at "rx"
      have en : (tx (rs c B) = Str.ofString "") ↔ rs c B = [] := by
        rw [e_tx]
        exact ⟨tx_inj, fun z => by rw [z]⟩
      refine r_iteND (fun h => ?_) (fun h => ?_)
      · have hne : rs c B ≠ [] := fun z => h (en.mpr z)
        walk_at "rx"
        refine ⟨a, c, _, rfl, hc1, ?_⟩
        walk_at "rx"
        refine r_iteB (fun hf => ?_) (fun hf => ?_)
        · rw [if_pos ⟨hne, hf⟩] at tail
          walk_at "rx"
          refine r_addUS (smallS (by rw [tx_len, nl_tx, tx_len]; simp only [List.length_cons, List.length_nil]; omega)) ?_
          rw [nl_tx, tx_app]
          walk_at "rx"
          exact tail _ _ ⟨_, rfl, sG⟩
        · rw [if_neg (fun z => by rw [z.2] at hf; cases hf)] at tail
          walk_at "rx"
          exact tail _ _ ⟨_, rfl, sG⟩
      · rw [if_neg (fun z => z.1 (en.mp h))] at tail
        walk_at "rx"
        exact tail _ _ ⟨_, rfl, sG⟩
  · rintro σ G ⟨b, s, col', part, v7, rfl, sG, hb, hl, e1, e2, e3, e4⟩ ex
    walk_at "rd"
    refine r_lenUS (smallS (by rw [tx_len]; omega)) ?_
    walk_at "rd"
    have hc1 := hc.same sG
    refine r_iteD (fun h => ?_) (fun h => ?_)
    · have h2 : c.sb ≤ b.length := by rw [tx_len] at h; omega
      rw [em_on hb1 h2] at e1 e2 e4
      rw [rs_on hb1 h2] at e3
      simp only [plcs, List.length_cons, snN] at e1 e2 e4
      have hbt : Bits (b.take c.sb) := hb.take _
      have lt : (b.take c.sb).length = c.sb := by rw [List.length_take]; omega
      have dlt : Bn.binNum (b.take c.sb) < c.sg.length := by
        have := bin_lt hbt
        rw [lt] at this
        rw [ok.ln]
        exact this
      refine r_turn ?_
      walk_at "rd"
      refine r_slUS (smallS (by rw [tx_len]; omega)) ?_
      rw [cut_take h2]
      walk_at "rd"
      refine r_intBin (by rw [tx_list]; intro z; rw [z] at lt; simp at lt; omega) (by rw [tx_len]; omega) (by rw [tx_list]; exact hbt) ?_
      rw [tx_list]
      have gch : atI c.sg.cps.toList ((Bn.binNum (b.take c.sb) : Nat) : Int) = some (sgnOf c (Bn.binNum (b.take c.sb))) := by
        have dlt' : Bn.binNum (b.take c.sb) < c.sg.cps.toList.length := by rw [Array.length_toList]; exact dlt
        refine atI_nat ?_
        unfold sgnOf
        rw [List.getElem?_eq_getElem dlt', List.getD_eq_getElem?_getD, List.getElem?_eq_getElem dlt']
        rfl
      have lsg : c.sg.length ≤ sizeLine := smallS (by
        rw [ok.ln]
        exact Nat.le_trans (Nat.pow_le_pow_right (by decide) hb6) (by decide))
      refine r_ixS lsg gch ?_
      walk_at "rd"
      refine ⟨a, c, col', sgnOf c (Bn.binNum (b.take c.sb)), rfl, hc1, fun p H' s1 np hv => ?_⟩
      walk_at "rd"
      refine r_iaddS (smallS (by
        rw [tx_len, tx_len]
        have := congrArg List.length e1
        simp only [List.length_append] at this
        omega)) ?_
      rw [tx_app]
      walk_at "rd"
      refine r_slUS (smallS (by rw [tx_len]; omega)) ?_
      rw [cut_drop h2]
      walk_at "rd"
      have ef : ((s : Int) + 1).fmod (grp c.sb : Int) = (((s + 1) % grp c.sb : Nat) : Int) := by
        rw [Int.fmod_eq_emod_of_nonneg _ (Int.natCast_nonneg _), Int.natCast_emod]
        rfl
      rw [ef]
      refine ⟨⟨b.drop c.sb, (s + 1) % grp c.sb, _, part ++ _, _, rfl, sG.trans s1, hb.drop _, by rw [List.length_drop]; omega, by rw [List.append_assoc]; exact e1, e2, e3, e4⟩, ?_⟩
      show (tx (b.drop c.sb)).length < (tx b).length
      rw [tx_len, tx_len, List.length_drop]
      omega
    · have h2 : ¬ c.sb ≤ b.length := by rw [tx_len] at h; omega
      rw [em_off h2] at e1 e2 e4
      rw [rs_off h2] at e3
      simp only [plcs, List.append_nil, List.length_nil, snN] at e1 e2 e4
      subst e1 e2 e3 e4
      exact ex _ _ ⟨_, rfl, sG⟩
theorem ok_Code_write (T : Txt K mg) : FnOk P w K mg base CX0 5 T.Code_write_a T.Code_write_d ["self", "state", "byte"] (sp_Code_write T) := by
  refine T.Code_write_f.ok sc_Code_write (fun vs H Q E h => len_Code_write T vs H Q E h) (fun cdv A outer s H vs Q E hr h => ⟨t_Code_write T, PSs.nox ?_, pure_Code_write T vs H Q E h⟩)
  have hu := hu64 hr
  exact (pss_cons (ps_asg (pv 1) (pg_tup (by rfl) (pgs_cons (pg_name (i := 3) sc_Code_write.nd rfl (.inl rfl)) (pgs_cons (pg_name (i := 4) sc_Code_write.nd rfl (.inl rfl)) (pgs_cons (pg_name (i := 5) sc_Code_write.nd rfl (.inl rfl)) pgs_nil)))))
      (pss_cons (ps_aug (i := 3) sc_Code_write.nd rfl (.inl rfl) (pe_joined1 (pe_fmtB (pv 2) (by decide) (by decide) (fun n hn t u => fmt08b hn t u))) ip_addU)
      (pss_cons (ps_set (i := 6) sc_Code_write.nd rfl (.inl rfl) pe_str)
      (pss_cons (ps_while PassesOwn.never (pt_cmpR op_ge (pe_callB c_lenU (by rfl) T.n_len (by decide +kernel) (pa_cons (pv 3) pa_nil)) (pe_prop (pv 0) T.C_Code_c T.Code_bits_p (ok_Code_bits T) (hr.mono (by decide)) T.Code_bits_b .nil pass0 rfl) (nomark _)) (pss_cons (ps_asg (pe_meth (pv 0) T.C_Code_c T.Code_placed_m (ok_Code_placed T) (hr.mono (by decide)) T.Code_placed_b .nil pass0 (pa_cons (pv 5) (pa_cons (pe_ix ix_seq (pe_prop (pv 0) T.C_Code_c T.Code_signs_p (ok_Code_signs T) (hr.mono (by decide)) T.Code_signs_b .nil pass0 rfl) (pe_callTy call_int_bin (by rfl) T.n_int (by decide +kernel) (pa_cons (pe_slice sl_U (pv 3) po_none (po_some (pe_prop (pv 0) T.C_Code_c T.Code_bits_p (ok_Code_bits T) (hr.mono (by decide)) T.Code_bits_b .nil pass0 rfl))) (pa_cons pe_int pa_nil))) (fun _ _ => rfl)) pa_nil))) (pg_tup (by rfl) (pgs_cons (pg_name (i := 7) sc_Code_write.nd rfl (.inl rfl)) (pgs_cons (pg_name (i := 5) sc_Code_write.nd rfl (.inl rfl)) pgs_nil))))
      (pss_cons (ps_aug (i := 6) sc_Code_write.nd rfl (.inl rfl) (pv 7) ip_addU)
      (pss_cons (ps_set (i := 3) sc_Code_write.nd rfl (.inl rfl) (pe_slice sl_U (pv 3) (po_some (pe_prop (pv 0) T.C_Code_c T.Code_bits_p (ok_Code_bits T) (hr.mono (by decide)) T.Code_bits_b .nil pass0 rfl)) po_none))
      (pss_one (ps_set (i := 4) sc_Code_write.nd rfl (.inl rfl) (pe_op op_modN (pe_op op_addU (pv 4) pe_int) (pe_prop (pv 0) T.C_Code_c T.Code_group_p (ok_Code_group T) (hr.mono (by decide)) T.Code_group_b .nil pass0 rfl))))))))
      (pss_cons (ps_if (PW.pt (pw_and (pt_cmpR (op_neU hu) (pv 3) pe_str (nomark _)) (pw_and1 (pt_val (pe_meth (pv 0) T.C_Code_c T.Code_is_full_m (ok_Code_is_full T) (hr.mono (by decide)) T.Code_is_full_b .nil pass0 (pa_cons (pv 5) pa_nil)))))) (pss_one (ps_par (i := 6) (j := 5) (by rfl) sc_Code_write.nd rfl rfl (by decide) rfl rfl (pa_cons (pe_op op_addU (pv 6) (pe_glob (by rfl) T.k_NEWLINE_g T.k_NEWLINE_r)) (pa_cons pe_int pa_nil)) (by rfl))) pss_nil)
      (pss_one (ps_ret (pe_tup (pa_cons (pv 6) (pa_cons (pe_tup (pa_cons (pv 3) (pa_cons (pv 4) (pa_cons (pv 5) pa_nil)))) pa_nil))))))))))


end
section
variable {P : Program} {w : World} {K : PySem.W.Frag} {mg : Str → Option Value} {base : Heap}
local macro_rules | `(tactic| walk_at "hc") => `(tactic| first
  | assumption
  | ((refine CodeAt.same (H := ?xH) ?xb ?xa); (case xa => assumption); (case xb => walk_at "hc")))
local macro_rules | `(tactic| walk_at "rd0") => `(tactic| first
  | ((with_reducible refine r_get (a := ?xa) (c := ?xc) ?x1 ?x2 ?_); (case x1 => rfl); (case x2 => walk_at "hc"))
  | ((with_reducible refine r_methC (a := ?xa) (c := ?xc) ?x1 ?x2 ?x3 ?_); (case x1 => rfl); (case x2 => walk_at "hc"); (case x3 => (intro _ _ _; rfl)))
  | (with_reducible refine r_fmtB ?_)
  | (with_reducible refine r_dget ?_)
  | (with_reducible refine r_m0 ?_)
  | (with_reducible refine r_makeK ?_)
  | (with_reducible refine r_cval ?_)
  | (with_reducible refine r_sfld ?_)
  | (with_reducible refine r_isiI ?_)
  | (with_reducible refine r_isiIB ?_)
  | (with_reducible refine r_isiS ?_)
  | (with_reducible refine r_inID ?_))

/-! ### how a text ends; whole texts -/
def lastS (c : CodeD) (b : List Nat) : Nat := sgnOf c (Bn.binNum (b ++ List.replicate (c.sb - b.length) 48))
def miss (c : CodeD) (sn : Nat) : Nat := if c.pd.cps.toList = [] then 0 else grp c.sb - 1 - sn
def padL (c : CodeD) (sn : Nat) : List Nat := List.replicate (miss c sn) (c.pd.cps.toList.getD 0 0)
/-- what the ending adds, without rows -/
def endS (c : CodeD) (b : List Nat) (sn : Nat) : List Nat := if b = [] then [] else lastS c b :: padL c sn
def sp_Code_close (T : Txt K mg) : Sp := fun vs H Q _ => ∃ a c st, ∃ b : List Nat, ∃ sn col : Nat, vs = [.ref a, .ref st] ∧ CodeAt T H a c ∧ StAt H st b sn col ∧ Bits b ∧ b.length < c.sb ∧ sn < grp c.sb ∧
  ∀ H', Same H H' → Q (.str (tx (plcs c col (endS c b sn)).1)) H'
theorem len_Code_close (T : Txt K mg) (vs : List V) (H : Hp) (Q : VK) (E : XK) (h : sp_Code_close T vs H Q E) : vs.length = 2 := by
  obtain ⟨_, _, _, _, _, _, rfl, _⟩ := h
  rfl
theorem plcs_app (c : CodeD) : ∀ (l m : List Nat) (col : Nat), plcs c col (l ++ m) = ((plcs c col l).1 ++ (plcs c (plcs c col l).2 m).1, (plcs c (plcs c col l).2 m).2)
  | [], m, col => rfl
  | s :: r, m, col => by
    simp only [List.cons_append, plcs, plcs_app c r m, List.append_assoc]
theorem tyS {z : Str} {H : Hp} : tyV K "str" (V.str z) H := rfl
theorem tx_of (z : Str) : z = tx z.cps.toList := by
  show z = ⟨z.cps.toList.toArray⟩
  simp
theorem pad_eq {c : CodeD} (ok : c.Ok) (h : c.pd.cps.toList ≠ []) : c.pd = tx [c.pd.cps.toList.getD 0 0] := by
  have hl : c.pd.cps.toList.length ≤ 1 := by rw [Array.length_toList]; exact ok.pl
  have e := tx_of c.pd
  generalize c.pd.cps.toList = l at h hl e ⊢
  match l, h, hl with
  | [x], _, _ => exact e
  | _ :: _ :: _, _, hl => exact absurd hl (by rw [List.length_cons, List.length_cons]; omega)
def t_Code_close (T : Txt K mg) : TS := (tSeq (tAsg (tVar 1) (gTup K 3 (gCons (gName 2) (gCons (gName 3) (gCons (gName 4) gNil)))))
    (tSeq (tIfS (tTest (tOp (rEqU K) (tVar 2) (tC (.str (Str.ofString ""))))) (tRet (tC (.str (Str.ofString "")))) tNext)
    (tSeq (tAsg (tOp (rIx K) (tProp T.C_Code (sp_Code_signs T) [] E0 (tVar 0)) (tCB rIntBin (tCons (tBM K "str" rLjust (tVar 2) (tCons (tProp T.C_Code (sp_Code_bits T) [] E0 (tVar 0)) (tCons (tC (.str (Str.ofString "0"))) tNil))) (tCons (tC (.int 2)) tNil)))) (gName 5))
    (tSeq (tAsg (tMeth T.C_Code "placed" (sp_Code_placed T) [] E0 (tVar 0) (tCons (tVar 4) (tCons (tVar 5) tNil))) (gTup K 2 (gCons (gName 6) (gCons (gName 4) gNil))))
    (tSeq (tAsg (tIf (tTest (tOp (rNeU K) (tProp T.C_Code (sp_Code_pad T) [] E0 (tVar 0)) (tC (.str (Str.ofString ""))))) (tOp rSubI (tOp rSubI (tProp T.C_Code (sp_Code_group T) [] E0 (tVar 0)) (tC (.int 1))) (tVar 3)) (tC (.int 0))) (gName 7))
    (tSeq (tFor (iRng1 (tCons (tVar 7) tNil)) (gName 8) (tSeq (tAsg (tMeth T.C_Code "placed" (sp_Code_placed T) [] E0 (tVar 0) (tCons (tVar 4) (tCons (tProp T.C_Code (sp_Code_pad T) [] E0 (tVar 0)) tNil))) (gTup K 2 (gCons (gName 9) (gCons (gName 4) gNil))))
    (tAug 6 (tVar 9) (rIaddU K))))
    (tRet (tVar 6))))))))

theorem pure_Code_close (T : Txt K mg) (vs : List V) (H : Hp) (Q : VK) (E : XK) (h : sp_Code_close T vs H Q E) : t_Code_close T { nx := fun _ H' => Q .non H', rt := Q } (start ["self", "state", "bits", "signs", "column", "last", "rest", "missing", "turn", "more"] vs) H := by
  obtain ⟨a, c, st, b, sn, col, rfl, hc, hst, hb, hl, hsn, q⟩ := h
  have ok := hc.1
  have hb1 := ok.b1
  have hb6 := ok.b6
  have gp := grp_pos hb1 hb6
  unfold StAt at hst
  unfold t_Code_close
  walk_at "rd"
  have en : (tx b = Str.ofString "") ↔ b = [] := by
    rw [e_tx]
    exact ⟨tx_inj, fun z => by rw [z]⟩
  refine r_iteD (fun h => ?_) (fun h => ?_)
  · have hz := en.mp h
    walk_at "rd"
    have q' := q H (Same.refl H)
    unfold endS at q'
    rw [if_pos hz] at q'
    exact q'
  · have hz : b ≠ [] := fun z => h (en.mpr z)
    unfold endS at q
    rw [if_neg hz] at q
    walk_at "rd"
    refine ⟨tyS, ?_⟩
    walk_at "rd"
    have pk : PadOk (c.sb : Int) = true := by
      have e : c.sb = 1 ∨ c.sb = 2 ∨ c.sb = 3 ∨ c.sb = 4 ∨ c.sb = 5 ∨ c.sb = 6 := by omega
      rcases e with e | e | e | e | e | e <;> rw [e] <;> rfl
    refine ⟨tx b, c.sb, 48, rfl, rfl, pk, ?_⟩
    have ef : fillR (tx b) (c.sb : Int) 48 = tx (b ++ List.replicate (c.sb - b.length) 48) := by
      unfold fillR
      rw [if_neg (by rw [tx_len]; omega), tx_len]
      show (⟨Array.replicate 0 48 ++ (tx b).cps ++ Array.replicate (Int.toNat c.sb - b.length) 48⟩ : Str) = _
      rw [Int.toNat_natCast]
      simp [tx]
    rw [ef]
    have hfl : (b ++ List.replicate (c.sb - b.length) 48).length = c.sb := by rw [List.length_append, List.length_replicate]; omega
    have hfb : Bits (b ++ List.replicate (c.sb - b.length) 48) := hb.app fun x hx => .inl (List.eq_of_mem_replicate hx)
    walk_at "rd"
    refine r_intBin (by rw [tx_list]; intro z; rw [z] at hfl; simp at hfl; omega) (by rw [tx_len, hfl]; omega) (by rw [tx_list]; exact hfb) ?_
    rw [tx_list]
    have dlt : Bn.binNum (b ++ List.replicate (c.sb - b.length) 48) < c.sg.cps.toList.length := by
      have := bin_lt hfb
      rw [hfl] at this
      rw [Array.length_toList]
      show _ < c.sg.length
      rw [ok.ln]
      exact this
    have gch : atI c.sg.cps.toList ((Bn.binNum (b ++ List.replicate (c.sb - b.length) 48) : Nat) : Int) = some (lastS c b) := by
      refine atI_nat ?_
      unfold lastS sgnOf
      rw [List.getElem?_eq_getElem dlt, List.getD_eq_getElem?_getD, List.getElem?_eq_getElem dlt]
      rfl
    have lsg : c.sg.length ≤ sizeLine := smallS (by
      rw [ok.ln]
      exact Nat.le_trans (Nat.pow_le_pow_right (by decide) hb6) (by decide))
    refine r_ixS lsg gch ?_
    walk_at "rd"
    refine ⟨a, c, col, lastS c b, rfl, hc, fun p H1 s1 np hv => ?_⟩
    have hc1 := hc.same s1
    walk_at "rx"
    refine r_seqC (fun σ G => σ = [some (.ref a), some (.ref st), some (.str (tx b)), some (.int (sn : Nat)), some (.int ((c.plc col (lastS c b)).2 : Nat)), some (.str (tx [lastS c b])), some (.str (tx (c.plc col (lastS c b)).1)), some (.int (miss c sn : Nat)), none, none] ∧ Same H G) ?_ fun N tail => ?_
    · rintro σ G ⟨rfl, sG⟩
      have hcG := hc.same sG
      have lm : miss c sn ≤ 8 := by
        have : grp c.sb ≤ 8 := by
          have e : c.sb = 1 ∨ c.sb = 2 ∨ c.sb = 3 ∨ c.sb = 4 ∨ c.sb = 5 ∨ c.sb = 6 := by omega
          rcases e with e | e | e | e | e | e <;> rw [e] <;> decide
        unfold miss
        split <;> omega
      walk_at "rd"
      refine r_one ⟨by omega, by omega⟩ ?_
      rw [Int.toNat_natCast]
      simp only [plcs] at q
      unfold padL at q
      generalize hP : (c.plc col (lastS c b)).1 = part0 at q ⊢
      generalize hC : (c.plc col (lastS c b)).2 = col0 at q ⊢
      have lp0 : part0.length ≤ 2 := by rw [← hP]; exact plc_len c col _
      refine f_it (walk_range (lo := 0) (n := miss c sn)) (fun i σ G => ∃ v8 v9, σ = [some (.ref a), some (.ref st), some (.str (tx b)), some (.int (sn : Nat)), some (.int ((plcs c col0 (List.replicate i (c.pd.cps.toList.getD 0 0))).2 : Nat)), some (.str (tx [lastS c b])), some (.str (tx (part0 ++ (plcs c col0 (List.replicate i (c.pd.cps.toList.getD 0 0))).1))), some (.int (miss c sn : Nat)), v8, v9] ∧ Same H G)
        ⟨none, none, by simp [plcs], sG⟩ (fun _ _ _ _ _ => trivial) ?_ ?_
      · rintro i x σ G2 G2' hi ⟨v8, v9, rfl, s2⟩ ⟨rfl, rfl⟩
        have hc2 := hc.same s2
        have hne : c.pd.cps.toList ≠ [] := fun z => by
          unfold miss at hi
          rw [if_pos z] at hi
          omega
        have ep := pad_eq ok hne
        walk_at "rd"
        refine ⟨a, c, _, c.pd.cps.toList.getD 0 0, by rw [← ep]; rfl, hc2, fun p2 H3 s3 np3 hv3 => ?_⟩
        walk_at "rd"
        have lpl := plcs_len c (List.replicate i (c.pd.cps.toList.getD 0 0)) col0
        rw [List.length_replicate] at lpl
        refine r_iaddS (smallS (by
          rw [tx_len, tx_len, List.length_append]
          have := plc_len c (plcs c col0 (List.replicate i (c.pd.cps.toList.getD 0 0))).2 (c.pd.cps.toList.getD 0 0)
          omega)) ?_
        rw [tx_app]
        walk_at "rd"
        refine ⟨some (.int (0 + (i : Int))), some (.str (tx (c.plc (plcs c col0 (List.replicate i (c.pd.cps.toList.getD 0 0))).2 (c.pd.cps.toList.getD 0 0)).1)), ?_, s2.trans s3⟩
        rw [List.replicate_succ', plcs_app]
        simp only [plcs, List.append_nil, List.append_assoc]
        rfl
      · rintro σ G2 ⟨v8, v9, rfl, s2⟩
        walk_at "rd"
        exact q G2 s2
    · walk_at "rx"
      have ep : (c.pd = Str.ofString "") ↔ c.pd.cps.toList = [] := by
        rw [e_tx]
        constructor
        · intro z; rw [z, tx_list]
        · intro z; rw [tx_of c.pd, z]
      refine r_iteND (fun h => ?_) (fun h => ?_)
      · have hne : c.pd.cps.toList ≠ [] := fun z => h (ep.mpr z)
        walk_at "rx"
        refine tail _ _ ⟨?_, s1⟩
        unfold miss
        rw [if_neg hne]
        have e : ((grp c.sb : Nat) : Int) - 1 - (sn : Nat) = ((grp c.sb - 1 - sn : Nat) : Int) := by omega
        rw [← e]
        rfl
      · walk_at "rx"
        refine tail _ _ ⟨?_, s1⟩
        unfold miss
        rw [if_pos (ep.mp h)]
        rfl
theorem ok_Code_close (T : Txt K mg) : FnOk P w K mg base CX0 5 T.Code_close_a T.Code_close_d ["self", "state"] (sp_Code_close T) := by
  refine T.Code_close_f.ok sc_Code_close (fun vs H Q E h => len_Code_close T vs H Q E h) (fun cdv A outer s H vs Q E hr h => ⟨t_Code_close T, PSs.nox ?_, pure_Code_close T vs H Q E h⟩)
  have hu := hu64 hr
  exact (pss_cons (ps_asg (pv 1) (pg_tup (by rfl) (pgs_cons (pg_name (i := 2) sc_Code_close.nd rfl (.inl rfl)) (pgs_cons (pg_name (i := 3) sc_Code_close.nd rfl (.inl rfl)) (pgs_cons (pg_name (i := 4) sc_Code_close.nd rfl (.inl rfl)) pgs_nil)))))
      (pss_cons (ps_if (pt_cmpR (op_eqU hu) (pv 2) pe_str (nomark _)) (pss_one (ps_ret pe_str)) pss_nil)
      (pss_cons (ps_set (i := 5) sc_Code_close.nd rfl (.inl rfl) (pe_ix ix_seq (pe_prop (pv 0) T.C_Code_c T.Code_signs_p (ok_Code_signs T) (hr.mono (by decide)) T.Code_signs_b .nil pass0 rfl) (pe_callTy call_int_bin (by rfl) T.n_int (by decide +kernel) (pa_cons (pe_bm PySem.F.plainAttrs_str PySem.F.slot_str_ljust PySem.F.type_str_ljust mt_ljustC (pv 2) (pa_cons (pe_prop (pv 0) T.C_Code_c T.Code_bits_p (ok_Code_bits T) (hr.mono (by decide)) T.Code_bits_b .nil pass0 rfl) (pa_cons pe_str pa_nil))) (pa_cons pe_int pa_nil))) (fun _ _ => rfl)))
      (pss_cons (ps_asg (pe_meth (pv 0) T.C_Code_c T.Code_placed_m (ok_Code_placed T) (hr.mono (by decide)) T.Code_placed_b .nil pass0 (pa_cons (pv 4) (pa_cons (pv 5) pa_nil))) (pg_tup (by rfl) (pgs_cons (pg_name (i := 6) sc_Code_close.nd rfl (.inl rfl)) (pgs_cons (pg_name (i := 4) sc_Code_close.nd rfl (.inl rfl)) pgs_nil))))
      (pss_cons (ps_set (i := 7) sc_Code_close.nd rfl (.inl rfl) (pe_ifExp (pt_cmpR (op_neU hu) (pe_prop (pv 0) T.C_Code_c T.Code_pad_p (ok_Code_pad T) (hr.mono (by decide)) T.Code_pad_b .nil pass0 rfl) pe_str (nomark _)) (pe_op op_sub (pe_op op_sub (pe_prop (pv 0) T.C_Code_c T.Code_group_p (ok_Code_group T) (hr.mono (by decide)) T.Code_group_b .nil pass0 rfl) pe_int) (pv 3)) pe_int))
      (pss_cons (ps_for PassesOwn.never rfl (pi_range1 (by rfl) T.n_range (pa_cons (pv 7) pa_nil)) (pg_name (i := 8) sc_Code_close.nd rfl (.inl rfl)) (pss_cons (ps_asg (pe_meth (pv 0) T.C_Code_c T.Code_placed_m (ok_Code_placed T) (hr.mono (by decide)) T.Code_placed_b .nil pass0 (pa_cons (pv 4) (pa_cons (pe_prop (pv 0) T.C_Code_c T.Code_pad_p (ok_Code_pad T) (hr.mono (by decide)) T.Code_pad_b .nil pass0 rfl) pa_nil))) (pg_tup (by rfl) (pgs_cons (pg_name (i := 9) sc_Code_close.nd rfl (.inl rfl)) (pgs_cons (pg_name (i := 4) sc_Code_close.nd rfl (.inl rfl)) pgs_nil))))
      (pss_one (ps_aug (i := 6) sc_Code_close.nd rfl (.inl rfl) (pv 9) ip_addU))))
      (pss_one (ps_ret (pv 6)))))))))


end
section
variable {P : Program} {w : World} {K : PySem.W.Frag} {mg : Str → Option Value} {base : Heap}
local macro_rules | `(tactic| walk_at "hc") => `(tactic| first
  | assumption
  | ((refine CodeAt.same (H := ?xH) ?xb ?xa); (case xa => assumption); (case xb => walk_at "hc")))
local macro_rules | `(tactic| walk_at "rd0") => `(tactic| first
  | ((with_reducible refine r_get (a := ?xa) (c := ?xc) ?x1 ?x2 ?_); (case x1 => rfl); (case x2 => walk_at "hc"))
  | ((with_reducible refine r_methC (a := ?xa) (c := ?xc) ?x1 ?x2 ?x3 ?_); (case x1 => rfl); (case x2 => walk_at "hc"); (case x3 => (intro _ _ _; rfl)))
  | (with_reducible refine r_fmtB ?_)
  | (with_reducible refine r_dget ?_)
  | (with_reducible refine r_m0 ?_)
  | (with_reducible refine r_makeK ?_)
  | (with_reducible refine r_cval ?_)
  | (with_reducible refine r_sfld ?_)
  | (with_reducible refine r_isiI ?_)
  | (with_reducible refine r_isiIB ?_)
  | (with_reducible refine r_isiS ?_)
  | (with_reducible refine r_inID ?_))

/-! ### whole texts -/
/-- part texts, the bits, the signs, the column behind the bytes -/
structure Wst where
  out : List (List Nat)
  b : List Nat
  sn : Nat
  col : Nat
def wstep (c : CodeD) (s : Wst) (x : Int) : Wst :=
  let B := s.b ++ b8 x.toNat
  ⟨s.out ++ [(wP c B s.col).1], rs c B, snN (grp c.sb) s.sn (em c B).length, (wP c B s.col).2⟩
def wrun (c : CodeD) (xs : List Int) : Wst := xs.foldl (wstep c) ⟨[], [], 0, 0⟩
def textC (c : CodeD) (xs : List Int) : List Nat := (wrun c xs).out.flatten ++ (plcs c (wrun c xs).col (endS c (wrun c xs).b (wrun c xs).sn)).1
theorem wrun_snoc (c : CodeD) (xs : List Int) (x : Int) : wrun c (xs ++ [x]) = wstep c (wrun c xs) x := by
  unfold wrun
  rw [List.foldl_append]
  rfl
theorem snN_lt {g : Nat} (hg : 0 < g) : ∀ (n sn : Nat), sn < g → snN g sn n < g
  | 0, sn, h => h
  | n + 1, sn, h => snN_lt hg n _ (Nat.mod_lt _ hg)
theorem wP_len (c : CodeD) (b : List Nat) (col : Nat) (h : b.length ≤ 13) : (wP c b col).1.length ≤ 27 := by
  have h1 := plcs_len c (em c b) col
  have h2 := em_len c _ b (Nat.le_refl _)
  unfold wP
  split
  · rw [List.length_append]
    simp only [List.length_cons, List.length_nil]
    omega
  · omega
structure Wok (c : CodeD) (s : Wst) : Prop where
  bits : Bits s.b
  bl : s.b.length < c.sb
  snl : s.sn < grp c.sb
  ol : ∀ p ∈ s.out, p.length ≤ 27
theorem Wok.step {c : CodeD} (ok : c.Ok) {s : Wst} (h : Wok c s) (x : Int) : Wok c (wstep c s x) := by
  have hB : Bits (s.b ++ b8 x.toNat) := h.bits.app (b8_bits _)
  have hl : (s.b ++ b8 x.toNat).length ≤ 13 := by
    have h1 := h.bl
    have h2 := ok.b6
    rw [List.length_append]
    show s.b.length + 8 ≤ 13
    omega
  obtain ⟨i1, k, i2⟩ := rs_sub c _ (s.b ++ b8 x.toNat) (Nat.le_refl _) ok.b1
  refine ⟨?_, i1, snN_lt (grp_pos ok.b1 ok.b6) _ _ h.snl, ?_⟩
  · show Bits (rs c _)
    rw [i2]
    exact hB.drop k
  · intro p hp
    rcases List.mem_append.mp hp with m | m
    · exact h.ol p m
    · rw [List.mem_singleton.mp m]
      exact wP_len c _ _ hl
theorem Wok.run {c : CodeD} (ok : c.Ok) (xs : List Int) : Wok c (wrun c xs) := by
  have h : ∀ (xs : List Int) (s : Wst), Wok c s → Wok c (xs.foldl (wstep c) s) := by
    intro xs
    induction xs with
    | nil => intro s h; exact h
    | cons x r ih => intro s h; exact ih _ (h.step ok x)
  exact h xs _ ⟨fun x hx => (nomatch hx), ok.b1, grp_pos ok.b1 ok.b6, fun p hp => (nomatch hp)⟩
theorem out_len (c : CodeD) (xs : List Int) : (wrun c xs).out.length = xs.length := by
  have h : ∀ (xs : List Int) (s : Wst), (xs.foldl (wstep c) s).out.length = s.out.length + xs.length := by
    intro xs
    induction xs with
    | nil => intro s; rfl
    | cons x r ih =>
      intro s
      rw [List.foldl_cons, ih]
      show (s.out ++ [_]).length + r.length = s.out.length + (r.length + 1)
      rw [List.length_append]
      simp only [List.length_cons, List.length_nil]
      omega
  have := h xs ⟨[], [], 0, 0⟩
  simpa [wrun] using this
theorem join_tx : ∀ l : List (List Nat), Str.join (Str.ofString "") (l.map tx) = tx l.flatten
  | [] => rfl
  | [x] => by
    show tx x = tx (x ++ [])
    rw [List.append_nil]
  | x :: y :: r => by
    have ih := join_tx (y :: r)
    rw [List.map_cons, List.map_cons, join_cons_cons]
    rw [List.map_cons] at ih
    rw [ih, e_tx, tx_app, tx_app, List.append_nil]
    rfl
theorem txt_join_tx (l : List (List Nat)) : Txt.join (Str.ofString "") (l.map tx) = tx l.flatten := by
  rw [← join_tx]
  exact PySem.StrLaws.glued_eq_join _ _
theorem sum_le {m : Nat} : ∀ l : List (List Nat), (∀ p ∈ l, p.length ≤ m) → ((l.map tx).map (·.length)).sum ≤ l.length * m
  | [], _ => by simp
  | x :: r, h => by
    have h1 := h x (List.mem_cons_self ..)
    have h2 := sum_le r fun p hp => h p (List.mem_cons_of_mem _ hp)
    simp only [List.map_cons, List.sum_cons, List.length_cons, tx_len, Nat.add_mul, Nat.one_mul] at h2 ⊢
    omega
def sp_Machine_whole (T : Txt K mg) : Sp := fun vs H Q _ => ∃ a c p, ∃ xs : List Int, vs = [.ref a, .ref p] ∧ CodeAt T H a c ∧ H p = some (.lst (xs.map V.int)) ∧ xs.length ≤ 600 ∧ Byts xs ∧ ∀ H', Same H H' → Q (.str (tx (textC c xs))) H'
theorem len_Machine_whole (T : Txt K mg) (vs : List V) (H : Hp) (Q : VK) (E : XK) (h : sp_Machine_whole T vs H Q E) : vs.length = 2 := by
  obtain ⟨_, _, _, _, rfl, _⟩ := h
  rfl
def t_Machine_whole (T : Txt K mg) : TS := (tSeq (tPar 2 3 (tCons (tLst tNil) (tCons (tMeth T.C_Code "begin" (sp_Code_begin T) [] E0 (tVar 0) tNil) tNil)))
    (tSeq (tFor (iSeqU K (tVar 1)) (gName 4) (tSeq (tAsg (tMeth T.C_Code "write" (sp_Code_write T) [] E0 (tVar 0) (tCons (tVar 3) (tCons (tVar 4) tNil))) (gTup K 2 (gCons (gName 5) (gCons (gName 3) gNil))))
    (tDrop (tBM K "list" rAppend (tVar 2) (tCons (tVar 5) tNil)))))
    (tRet (tOp (rAddU K) (tJoinU K (tC (.str (Str.ofString ""))) (tVar 2)) (tMeth T.C_Code "close" (sp_Code_close T) [] E0 (tVar 0) (tCons (tVar 3) tNil))))))

theorem pure_Machine_whole (T : Txt K mg) (vs : List V) (H : Hp) (Q : VK) (E : XK) (h : sp_Machine_whole T vs H Q E) : t_Machine_whole T { nx := fun _ H' => Q .non H', rt := Q } (start ["self", "data", "parts", "state", "byte", "part"] vs) H := by
  obtain ⟨a, c, p, xs, rfl, hc, hp, hl, hx, q⟩ := h
  have ok := hc.1
  unfold t_Machine_whole
  walk_at "rd"
  refine And.intro (Nat.zero_le _) ?_
  intro D nD
  generalize hg : upd _ D _ = Hn
  have hs := same_of hg nD
  have hv := at_of hg
  clear hg
  walk_at "rd"
  refine ⟨a, c, rfl, hc.same hs, fun st H1 s1 nst hst => ?_⟩
  walk_at "rd"
  refine r_iseqL ?_
  walk_at "rd"
  have hp1 : H1 p = some (.lst (xs.map V.int)) := s1 _ _ (hs _ _ hp)
  have nDp : p ≠ D := ne_of_none hp nD
  refine ⟨p, rfl, ⟨_, ql hp1⟩, ?_⟩
  refine f_it (walk_list (K := K) (a := p) (xs := xs.map V.int)) (fun i σ G => ∃ v4 v5 st, σ = [some (.ref a), some (.ref p), some (.ref D), some (.ref st), v4, v5] ∧ Same H G ∧ H st = none ∧ st ≠ D ∧
      G D = some (.lst ((wrun c (xs.take i)).out.map fun l => V.str (tx l))) ∧ StAt G st (wrun c (xs.take i)).b (wrun c (xs.take i)).sn (wrun c (xs.take i)).col)
    ⟨none, none, st, rfl, hs.trans s1, hs.free nst, (ne_of_none hv nst).symm, s1 _ _ hv, hst⟩ (fun i σ G _ h => by
      obtain ⟨_, _, _, _, s, _⟩ := h
      exact ql (s _ _ hp)) ?_ ?_
  · rintro i x σ G G' hi ⟨v4, v5, st, rfl, sG, hst0, hstD, hD, hS⟩ ⟨rfl, hx'⟩
    obtain ⟨z, hz, rfl⟩ := at_int hx'
    have bz := hx z (List.mem_of_getElem? hz)
    obtain ⟨n, rfl⟩ : ∃ n : Nat, z = n := ⟨z.toNat, by omega⟩
    have wok := Wok.run ok (xs.take i)
    have hcG := hc.same sG
    walk_at "rd"
    refine ⟨a, c, st, _, _, _, n, rfl, hcG, hS, wok.bits, wok.bl, by omega, fun pp st' G2 s2 npp nst' hpp hst' => ?_⟩
    walk_at "rd"
    have hD2 := s2 _ _ hD
    refine ⟨r_tyL (ql hD2), ?_⟩
    walk_at "rd"
    have ol : (wrun c (xs.take i)).out.length ≤ 600 := by
      rw [out_len, List.length_take]
      omega
    refine r_append hD2 (by rw [List.length_map]; exact Nat.lt_of_le_of_lt ol (by rw [sizeLine_eq]; decide)) ?_
    walk_at "rd"
    have e : wrun c (xs.take (i + 1)) = wstep c (wrun c (xs.take i)) (n : Nat) := by
      rw [List.take_add_one, hz, ← wrun_snoc]
      rfl
    have ne' : st' ≠ D := (ne_of_none hD nst').symm
    rw [e]
    refine ⟨_, _, st', rfl, same_mut (sG.trans s2) nD, sG.free nst', ne', ?_, ?_⟩
    · rw [upd_same]
      show _ = some (HO.lst (List.map _ (_ ++ [_])))
      rw [List.map_append]
      first | done | rfl
    · unfold StAt
      rw [upd_ne ne']
      exact hst'
  · rintro σ G ⟨v4, v5, st, rfl, sG, hst0, hstD, hD, hS⟩
    rw [List.length_map, List.take_of_length_le (Nat.le_refl _)] at hD hS
    have wok := Wok.run ok xs
    walk_at "rd"
    refine r_join ?_ rfl
    walk_at "rd"
    have sl := sum_le _ wok.ol
    rw [out_len] at sl
    refine ⟨_, D, (wrun c xs).out.map tx, rfl, rfl, .inl (ql ?_), ?_, ?_⟩
    · rw [List.map_map]
      exact hD
    · have e0 : (Str.ofString "").length = 0 := rfl
      rw [e0, Nat.mul_zero, Nat.add_zero]
      omega
    rw [txt_join_tx]
    walk_at "rd"
    refine ⟨a, c, st, _, _, _, rfl, hc.same sG, hS, wok.bits, wok.bl, wok.snl, fun H3 s3 => ?_⟩
    refine r_addUS (smallS ?_) ?_
    · rw [tx_len, tx_len]
      have h1 := plcs_len c (endS c (wrun c xs).b (wrun c xs).sn) (wrun c xs).col
      have h2 : (endS c (wrun c xs).b (wrun c xs).sn).length ≤ 10 := by
        unfold endS padL miss
        have g8 : grp c.sb ≤ 8 := by
          have h1 := ok.b1
          have h6 := ok.b6
          have e : c.sb = 1 ∨ c.sb = 2 ∨ c.sb = 3 ∨ c.sb = 4 ∨ c.sb = 5 ∨ c.sb = 6 := by omega
          rcases e with e | e | e | e | e | e <;> rw [e] <;> decide
        split
        · exact Nat.zero_le _
        · rw [List.length_cons, List.length_replicate]
          split <;> omega
      have h3 : (wrun c xs).out.flatten.length = ((((wrun c xs).out).map tx).map (·.length)).sum := by
        rw [List.length_flatten, List.map_map]
        congr 1
        try exact List.map_congr_left fun l _ => (tx_len l).symm
      omega
    rw [tx_app]
    walk_at "rd"
    exact q H3 (sG.trans s3)
theorem ok_Machine_whole (T : Txt K mg) : FnOk P w K mg base CX0 6 T.Machine_whole_a T.Machine_whole_d ["self", "data"] (sp_Machine_whole T) := by
  refine T.Machine_whole_f.ok sc_Machine_whole (fun vs H Q E h => len_Machine_whole T vs H Q E h) (fun cdv A outer s H vs Q E hr h => ⟨t_Machine_whole T, PSs.nox ?_, pure_Machine_whole T vs H Q E h⟩)
  have hu := hu64 hr
  exact (pss_cons (ps_par (i := 2) (j := 3) (by rfl) sc_Machine_whole.nd rfl rfl (by decide) rfl rfl (pa_cons (pe_lst pa_nil) (pa_cons (pe_meth0 (pv 0) T.C_Code_c T.Code_begin_m (ok_Code_begin T) (hr.mono (by decide)) T.Code_begin_b .nil pass0) pa_nil)) (by rfl))
      (pss_cons (ps_for PassesOwn.never rfl (pi_seqU (pv 1)) (pg_name (i := 4) sc_Machine_whole.nd rfl (.inl rfl)) (pss_cons (ps_asg (pe_meth (pv 0) T.C_Code_c T.Code_write_m (ok_Code_write T) (hr.mono (by decide)) T.Code_write_b .nil pass0 (pa_cons (pv 3) (pa_cons (pv 4) pa_nil))) (pg_tup (by rfl) (pgs_cons (pg_name (i := 5) sc_Machine_whole.nd rfl (.inl rfl)) (pgs_cons (pg_name (i := 3) sc_Machine_whole.nd rfl (.inl rfl)) pgs_nil))))
      (pss_one (ps_expr (pe_bm PySem.F.plainAttrs_list PySem.F.slot_list_append PySem.F.type_list_append mt_append (pv 2) (pa_cons (pv 5) pa_nil))))))
      (pss_one (ps_ret (pe_op op_addU (pe_join pe_str (pv 2)) (pe_meth (pv 0) T.C_Code_c T.Code_close_m (ok_Code_close T) (hr.mono (by decide)) T.Code_close_b .nil pass0 (pa_cons (pv 3) pa_nil)))))))

def sp_plain_text (T : Txt K mg) : Sp := sp_Machine_whole T
theorem len_plain_text (T : Txt K mg) (vs : List V) (H : Hp) (Q : VK) (E : XK) (h : sp_plain_text T vs H Q E) : vs.length = 2 := len_Machine_whole T vs H Q E h
def t_plain_text (T : Txt K mg) : TS := (tRet (tMeth T.C_Code "whole" (sp_Machine_whole T) [] E0 (tVar 0) (tCons (tVar 1) tNil)))

theorem pure_plain_text (T : Txt K mg) (vs : List V) (H : Hp) (Q : VK) (E : XK) (h : sp_plain_text T vs H Q E) : t_plain_text T { nx := fun _ H' => Q .non H', rt := Q } (start ["code", "data"] vs) H := by
  obtain ⟨a, c, p, xs, rfl, hc, hp, hl, hx, q⟩ := h
  unfold t_plain_text
  walk_at "rd"
  exact ⟨a, c, p, xs, rfl, hc, hp, hl, hx, q⟩
theorem ok_plain_text (T : Txt K mg) : FnOk P w K mg base CX0 7 T.plain_text_a T.plain_text_d ["code", "data"] (sp_plain_text T) := by
  refine T.plain_text_f.ok sc_plain_text (fun vs H Q E h => len_plain_text T vs H Q E h) (fun cdv A outer s H vs Q E hr h => ⟨t_plain_text T, PSs.nox ?_, pure_plain_text T vs H Q E h⟩)
  have hu := hu64 hr
  exact (pss_one (ps_ret (pe_meth (pv 0) T.C_Code_c T.Machine_whole_m (ok_Machine_whole T) (hr.mono (by decide)) T.Machine_whole_b .nil pass0 (pa_cons (pv 1) pa_nil))))

def sp_text_of (T : Txt K mg) : Sp := sp_Machine_whole T
theorem len_text_of (T : Txt K mg) (vs : List V) (H : Hp) (Q : VK) (E : XK) (h : sp_text_of T vs H Q E) : vs.length = 2 := len_Machine_whole T vs H Q E h
def t_text_of (T : Txt K mg) : TS := (tRet (tCall (sp_plain_text T) [] E0 (tCons (tVar 0) (tCons (tCall (sp_data_of T) [] E0 (tCons (tVar 1) tNil)) tNil))))

theorem pure_text_of (T : Txt K mg) (vs : List V) (H : Hp) (Q : VK) (E : XK) (h : sp_text_of T vs H Q E) : t_text_of T { nx := fun _ H' => Q .non H', rt := Q } (start ["code", "data"] vs) H := by
  obtain ⟨a, c, p, xs, rfl, hc, hp, hl, hx, q⟩ := h
  unfold t_text_of
  walk_at "rd"
  refine ⟨p, xs, rfl, hp, hl, hx, fun r H1 s1 nr hr => ?_⟩
  walk_at "rd"
  exact ⟨a, c, r, xs, rfl, hc.same s1, hr, hl, hx, fun H2 s2 => q H2 (s1.trans s2)⟩
theorem ok_text_of (T : Txt K mg) : FnOk P w K mg base CX0 8 T.text_of_a T.text_of_d ["code", "data"] (sp_text_of T) := by
  refine T.text_of_f.ok sc_text_of (fun vs H Q E h => len_text_of T vs H Q E h) (fun cdv A outer s H vs Q E hr h => ⟨t_text_of T, PSs.nox ?_, pure_text_of T vs H Q E h⟩)
  have hu := hu64 hr
  exact (pss_one (ps_ret (pe_call (ok_plain_text T) (hr.mono (by decide)) (by rfl) T.plain_text_g T.plain_text_f.kp T.plain_text_b .nil pass0 (pa_cons (pv 0) (pa_cons (pe_call (ok_data_of T) (hr.mono (by decide)) (by rfl) T.data_of_g T.data_of_f.kp T.data_of_b .nil pass0 (pa_cons (pv 1) pa_nil)) pa_nil)))))


end
section
variable {P : Program} {w : World} {K : PySem.W.Frag} {mg : Str → Option Value} {base : Heap}
local macro_rules | `(tactic| walk_at "hc") => `(tactic| first
  | assumption
  | ((refine CodeAt.same (H := ?xH) ?xb ?xa); (case xa => assumption); (case xb => walk_at "hc")))
local macro_rules | `(tactic| walk_at "rd0") => `(tactic| first
  | ((with_reducible refine r_get (a := ?xa) (c := ?xc) ?x1 ?x2 ?_); (case x1 => rfl); (case x2 => walk_at "hc"))
  | ((with_reducible refine r_methC (a := ?xa) (c := ?xc) ?x1 ?x2 ?x3 ?_); (case x1 => rfl); (case x2 => walk_at "hc"); (case x3 => (intro _ _ _; rfl)))
  | (with_reducible refine r_fmtB ?_)
  | (with_reducible refine r_dget ?_)
  | (with_reducible refine r_m0 ?_)
  | (with_reducible refine r_makeK ?_)
  | (with_reducible refine r_cval ?_)
  | (with_reducible refine r_sfld ?_)
  | (with_reducible refine r_isiI ?_)
  | (with_reducible refine r_isiIB ?_)
  | (with_reducible refine r_isiS ?_)
  | (with_reducible refine r_inID ?_))

/-! ### a code is made -/
theorem d_it {J : It} {n : Nat} {G0 : Hp → Prop} {Y : Nat → Hp → V → Hp → Prop} {g : TG} {tt : TT} {tk tv : TE} {us : List Nat} {σ : S} {H : Hp} {D : Addr} {Qd : Hp → Prop} (w : Walk J n G0 Y) (Pv : Nat → Hp → Prop) (h0 : Pv 0 (upd H D (.dK []))) (hG : ∀ i H, i ≤ n → Pv i H → G0 H)
    (hs : ∀ i x H H', i < n → Pv i H → Y i H x H' → g x (wipe σ us) H' fun σ2 H2 => wipe σ2 us = wipe σ us ∧ tt σ2 H2 fun b H3 =>
      if b = true then tk σ2 H3 fun y H4 => tv σ2 H4 fun z H5 => ∃ kvs k, y = kV k ∧ H5 D = some (.dK kvs) ∧ kvs.length < sizeLine ∧ Pv (i + 1) (upd H5 D (.dK (putK kvs k z))) else Pv (i + 1) H3) (hd : ∀ H, Pv n H → Qd H) :
    ∃ W : Nat → Nat → Hp → Prop, (∃ m, W 0 m (upd H D (.dK []))) ∧ ∀ i m H, W i m H → (J.stop i H ∧ Qd H) ∨ (J.go i H ∧ ∃ Nx : Hp → Prop, (∀ H', Nx H' → ∃ m', m' < m ∧ W (i + 1) m' H') ∧ ∀ x H', J.yld i H x H' →
      g x (wipe σ us) H' fun σ2 H2 => wipe σ2 us = wipe σ us ∧ tt σ2 H2 fun b H3 =>
        if b = true then tk σ2 H3 fun y H4 => tv σ2 H4 fun z H5 => ∃ kvs k, y = kV k ∧ H5 D = some (.dK kvs) ∧ kvs.length < sizeLine ∧ Nx (upd H5 D (.dK (putK kvs k z))) else Nx H3) := by
  refine ⟨fun i m H => m = n - i ∧ i ≤ n ∧ Pv i H, ⟨n, by omega, Nat.zero_le _, h0⟩, ?_⟩
  rintro i m H ⟨rfl, hi, p⟩
  by_cases lt : i < n
  · exact .inr ⟨w.1 i H lt (hG i H hi p), Pv (i + 1), fun H' q => ⟨n - (i + 1), by omega, rfl, lt, q⟩, fun x H' y => hs i x H H' lt p (w.3 i H x H' lt (hG i H hi p) y)⟩
  · have e : i = n := by omega
    subst e
    exact .inl ⟨w.2 H (hG i H hi p), hd H p⟩
def CodeD.New (c : CodeD) : Prop := c.Ok ∧ c.sg.cps.toList.Nodup ∧ ∀ x ∈ c.pd.cps.toList, x ∉ c.sg.cps.toList
def sp_Code___init__ (T : Txt K mg) : Sp := fun vs H Q _ => ∃ a dx, ∃ c : CodeD, vs = [.ref a, .str c.sg, .str c.pd, .int c.wd] ∧ H a = some (.ins T.C_Code dx []) ∧ c.New ∧ ∀ H', SameB a H H' → CodeAt T H' a c → Q .non H'
theorem len_Code___init__ (T : Txt K mg) (vs : List V) (H : Hp) (Q : VK) (E : XK) (h : sp_Code___init__ T vs H Q E) : vs.length = 4 := by
  obtain ⟨_, _, _, rfl, _⟩ := h
  rfl
theorem bits_at {n : Nat} (h1 : 1 ≤ n) (h6 : n ≤ 6) : atK [(2, 1), (4, 2), (8, 3), (16, 4), (32, 5), (64, 6)] ((2 ^ n : Nat) : Int) = some (n : Int) := by
  have e : n = 1 ∨ n = 2 ∨ n = 3 ∨ n = 4 ∨ n = 5 ∨ n = 6 := by omega
  rcases e with rfl | rfl | rfl | rfl | rfl | rfl <;> decide
def t_Code___init__ (T : Txt K mg) : TS := (tSeq (tIfS (tOr (tNot (tB (tCall (sp_are_signs T) [] E0 (tCons (tVar 1) tNil)))) (tTest (tOp (rInID [(2, 1), (4, 2), (8, 3), (16, 4), (32, 5), (64, 6)] T.k_BITS_a (fun b => !b)) (tCB (rLenU K) (tCons (tVar 1) tNil)) (tC (.ref T.k_BITS_a))))) tNever tNext)
    (tSeq (tIfS (tOr (tAnd (tTest (tOp (rNeU K) (tVar 2) (tC (.str (Str.ofString ""))))) (tOr (tNot (tB (tCall (sp_is_sign T) [] E0 (tCons (tVar 2) tNil)))) (tTest (tOp (rInU K) (tVar 2) (tVar 1))))) (tNot (tB (tCB (rIsi K) (tCons (tVar 2) (tCons (tC (.ty "str")) tNil)))))) tNever tNext)
    (tSeq (tIfS (tNot (tB (tCall (sp_is_within T) [] E0 (tCons (tVar 3) (tCons (tC (.int 0)) (tCons (ClX.tCVal K (tC (.ref T.C_Code)) "WIDEST") tNil)))))) tNever tNext)
    (tSeq (sFld K (tVar 0) (tTup (tCons (tVar 1) (tCons (tVar 2) (tCons (tVar 3) tNil)))) "parts")
    (tSeq (sFld K (tVar 0) (tDc (iEnumU K (tCons (tVar 1) tNil)) (gTup K 2 (gCons (gName 4) (gCons (gName 5) gNil))) tYes (tVar 5) (tVar 4) [4, 5]) "digits")
    (sFld K (tVar 0) (tOp (rIxID [(2, 1), (4, 2), (8, 3), (16, 4), (32, 5), (64, 6)] T.k_BITS_a) (tC (.ref T.k_BITS_a)) (tCB (rLenU K) (tCons (tVar 1) tNil))) "sign_bits"))))))

theorem pure_Code___init__ (T : Txt K mg) (vs : List V) (H : Hp) (Q : VK) (E : XK) (h : sp_Code___init__ T vs H Q E) : t_Code___init__ T { nx := fun _ H' => Q .non H', rt := Q } (start ["self", "signs", "pad", "width", "digit", "sign"] vs) H := by
  obtain ⟨a, dx, c, rfl, ha, ⟨ok, hnd, hpn⟩, q⟩ := h
  have hb1 := ok.b1
  have hb6 := ok.b6
  have lsg : c.sg.length ≤ 64 := by
    rw [ok.ln]
    exact Nat.le_trans (Nat.pow_le_pow_right (by decide) hb6) (by decide)
  have lsl : c.sg.length ≤ sizeLine := smallS (by omega)
  unfold t_Code___init__
  walk_at "rd"
  refine ⟨c.sg, rfl, by omega, ok.sgs, hnd, fun H1 s1 => ?_⟩
  walk_at "rd"
  refine r_lenUS lsl ?_
  walk_at "rd"
  rw [show ((c.sg.length : Nat) : Int) = ((2 ^ c.sb : Nat) : Int) by rw [ok.ln], bits_at hb1 hb6]
  refine r_iteNT ?_
  walk_at "rx"
  refine r_seqC (fun σ G => σ = [some (.ref a), some (.str c.sg), some (.str c.pd), some (.int c.wd), none, none] ∧ G = H1) ?_ fun N tail => ?_
  · rintro σ G ⟨rfl, rfl⟩
    walk_at "rd"
    refine ⟨_, _, _, _, rfl, T.C_Code_r, T.C_Code_v_WIDEST.choose_spec, ?_⟩
    walk_at "rd"
    refine ⟨c.wd, 0, 76, rfl, ?_⟩
    rw [decide_eq_true (show (0 : Int) ≤ (c.wd : Int) by omega), decide_eq_true (show (c.wd : Int) ≤ 76 by have := ok.wd76; omega)]
    walk_at "rd"
    refine r_iteNT ?_
    walk_at "rd"
    refine And.intro (by show 3 ≤ sizeLine; decide) ?_
    intro tp ntp
    generalize hgt : upd _ tp _ = Ht
    have st := same_of hgt ntp
    have vt := at_of hgt
    clear hgt
    have hat := st _ _ (s1 _ _ ha)
    have ntpa : tp ≠ a := (ne_of_none (s1 _ _ ha) ntp).symm
    walk_at "rd"
    refine ⟨a, T.C_Code, dx, [], rfl, hat, T.C_Code_c, T.C_Code_n_parts, by decide, ?_⟩
    generalize hg3 : upd Ht a _ = H3
    have b3 : SameB a Ht H3 := sameB_of hg3
    have h3a : H3 a = some (.ins T.C_Code dx [("parts", .ref tp)]) := at_of hg3
    have h3t : H3 tp = some (.tup [.str c.sg, .str c.pd, .int c.wd]) := b3 _ _ ntpa vt
    clear hg3
    walk_at "rd"
    show iEnumU K (tCons (tVar 1) tNil) _ H3 _
    refine r_enumS ?_
    walk_at "rd"
    refine ⟨c.sg, rfl, fun D nD => ?_⟩
    refine d_it walk_pairs (fun i G => (∃ kvs, G D = some (.dK kvs) ∧ kvs.length ≤ i) ∧ Same H3 G) ⟨⟨[], upd_same, Nat.le_refl _⟩, same_new nD⟩ (fun _ _ _ _ => trivial) ?_ ?_
    · rintro i x G G' hi ⟨⟨kvs, hk, lk⟩, sG⟩ ⟨Tp, u, v, rfl, nT, hG', ea, eb⟩
      have hsT := same_of hG'.symm nT
      have hvT := at_of hG'.symm
      clear hG'
      cases ea
      unfold sgn at eb
      obtain ⟨ch, hch, rfl⟩ := Option.map_eq_some_iff.mp eb
      walk_at "rd"
      refine ⟨rfl, ?_⟩
      walk_at "rd"
      have hi' : i < c.sg.length := hi
      refine ⟨kvs, .inr ⟨#[ch]⟩, rfl, hsT _ _ hk, Nat.lt_of_le_of_lt lk (Nat.lt_of_lt_of_le hi' lsl), ⟨_, upd_same, ?_⟩, same_mut (sG.trans hsT) nD⟩
      have := length_putK kvs (.inr ⟨#[ch]⟩) (.int (i : Nat))
      omega
    rintro G4 ⟨⟨kvs, hk, lk⟩, sG⟩
    walk_at "rd"
    refine ⟨a, T.C_Code, dx, _, rfl, sG _ _ h3a, T.C_Code_c, T.C_Code_n_digits, (by show 1 < 1000; decide), ?_⟩
    generalize hg5 : upd G4 a _ = H5
    have b5 : SameB a G4 H5 := sameB_of hg5
    have h5a : H5 a = some (.ins T.C_Code dx [("parts", .ref tp), ("digits", .ref D)]) := at_of hg5
    have h5t : H5 tp = some (.tup [.str c.sg, .str c.pd, .int c.wd]) := b5 _ _ ntpa (sG _ _ h3t)
    clear hg5
    walk_at "rd"
    refine r_lenUS lsl ?_
    rw [ok.ln]
    refine r_ixID (bits_at hb1 hb6) ?_
    walk_at "rd"
    refine ⟨a, T.C_Code, dx, _, rfl, h5a, T.C_Code_c, T.C_Code_n_sign_bits, (by show 2 < 1000; decide), ?_⟩
    generalize hg6 : upd H5 a _ = H6
    have b6 : SameB a H5 H6 := sameB_of hg6
    have h6a : H6 a = some (.ins T.C_Code dx [("parts", .ref tp), ("digits", .ref D), ("sign_bits", .int c.sb)]) := at_of hg6
    have h6t := b6 _ _ ntpa h5t
    clear hg6
    exact q H6 (((toB (s1.trans st)).trans b3).trans ((toB sG).trans (b5.trans b6))) ⟨ok, dx, tp, D, h6a, h6t⟩
  · walk_at "rx"
    have pn : (c.pd = Str.ofString "") ↔ c.pd.cps.toList = [] := by
      rw [e_tx]
      constructor
      · intro z; rw [z, tx_list]
      · intro z; rw [tx_of c.pd, z]
    have fin : (if (!true) = true then True else True) := trivial
    refine r_iteND (fun h => ?_) (fun h => ?_)
    · have hne : c.pd.cps.toList ≠ [] := fun z => h (pn.mpr z)
      have ep := pad_eq ok hne
      have mp : c.pd.cps.toList.getD 0 0 ∈ c.pd.cps.toList := by
        cases hl : c.pd.cps.toList with
        | nil => exact absurd hl hne
        | cons x r => exact List.mem_cons_self
      walk_at "rx"
      refine ⟨c.pd.cps.toList.getD 0 0, by rw [ep]; rfl, ok.pds _ mp, ?_⟩
      walk_at "rx"
      refine r_inS ⟨c.pd.cps.toList.getD 0 0, c.sg, ep ▸ rfl, rfl, ?_⟩
      rw [decide_eq_false (hpn _ mp)]
      walk_at "rx"
      exact tail _ _ ⟨rfl, rfl⟩
    · walk_at "rx"
      exact tail _ _ ⟨rfl, rfl⟩
theorem ok_Code___init__ (T : Txt K mg) : FnOk P w K mg base CX0 3 T.Code___init___a T.Code___init___d ["self", "signs", "pad", "width"] (sp_Code___init__ T) := by
  refine T.Code___init___f.ok sc_Code___init__ (fun vs H Q E h => len_Code___init__ T vs H Q E h) (fun cdv A outer s H vs Q E hr h => ⟨t_Code___init__ T, PSs.nox ?_, pure_Code___init__ T vs H Q E h⟩)
  have hu := hu64 hr
  exact (pss_cons (ps_if (PW.pt (pw_or (pt_not (pt_val (pe_call (ok_are_signs T) (hr.mono (by decide)) (by rfl) T.are_signs_g T.are_signs_f.kp T.are_signs_b .nil pass0 (pa_cons (pv 1) pa_nil)))) (pw_or1 (pt_cmpR (op_notInID T.k_BITS_d) (pe_callB c_lenU (by rfl) T.n_len (by decide +kernel) (pa_cons (pv 1) pa_nil)) (pe_glob (by rfl) T.k_BITS_g rfl) (by rfl))))) (pss_one ps_never) pss_nil)
      (pss_cons (ps_if (PW.pt (pw_or (PW.pt (pw_and (pt_cmpR (op_neU hu) (pv 2) pe_str (nomark _)) (pw_and1 (PW.pt (pw_or (pt_not (pt_val (pe_call (ok_is_sign T) (hr.mono (by decide)) (by rfl) T.is_sign_g T.is_sign_f.kp T.is_sign_b .nil pass0 (pa_cons (pv 2) pa_nil)))) (pw_or1 (pt_cmpR op_inU (pv 2) (pv 1) (by rfl)))))))) (pw_or1 (pt_not (pt_val (pe_callB call_isi (by rfl) T.n_isinstance (by decide +kernel) (pa_cons (pv 2) (pa_cons (pe_bltn (v := .ty "str") (by rfl) T.n_str (by decide +kernel) rfl) pa_nil)))))))) (pss_one ps_never) pss_nil)
      (pss_cons (ps_if (pt_not (pt_val (pe_call (ok_is_within T) (hr.mono (by decide)) (by rfl) T.is_within_g T.is_within_f.kp T.is_within_b .nil pass0 (pa_cons (pv 3) (pa_cons pe_int (pa_cons (ClX.pe_cval (pe_glob (by rfl) T.C_Code_g rfl)) pa_nil)))))) (pss_one ps_never) pss_nil)
      (pss_cons (ps_fld (pv 0) (pe_tup (pa_cons (pv 1) (pa_cons (pv 2) (pa_cons (pv 3) pa_nil)))) rfl)
      (pss_cons (ps_fld (pv 0) (pe_dc (own := [("digit", 4), ("sign", 5)]) (g := (gTup K 2 (gCons (gName 4) (gCons (gName 5) gNil)))) (tt := tYes) rfl sc_Code___init__.nd (pi_enumU (by rfl) T.n_enumerate (pa_cons (pv 1) pa_nil)) (blkOk_by (own := [("digit", 4), ("sign", 5)]) (N := ["self", "signs", "pad", "width", "digit", "sign"]) (sc := defScope s_Code___init__) (by decide +kernel)) (fun _ _ _ _ _ => (pg_tup (by rfl) (pgs_cons (pg_name (i := 4) sc_Code___init__.nd rfl (.inl rfl)) (pgs_cons (pg_name (i := 5) sc_Code___init__.nd rfl (.inl rfl)) pgs_nil)))) (fun _ _ _ _ _ => pts_nil) (fun _ _ _ _ _ => (pv 5)) (fun _ _ _ _ _ => (pv 4))) rfl)
      (pss_one (ps_fld (pv 0) (pe_ixID T.k_BITS_d (pe_glob (by rfl) T.k_BITS_g rfl) (pe_callB c_lenU (by rfl) T.n_len (by decide +kernel) (pa_cons (pv 1) pa_nil)) (fun _ _ => rfl)) rfl)))))))


end
section
variable {P : Program} {w : World} {K : PySem.W.Frag} {mg : Str → Option Value} {base : Heap}
local macro_rules | `(tactic| walk_at "hc") => `(tactic| first
  | assumption
  | ((refine CodeAt.same (H := ?xH) ?xb ?xa); (case xa => assumption); (case xb => walk_at "hc")))
local macro_rules | `(tactic| walk_at "rd0") => `(tactic| first
  | ((with_reducible refine r_get (a := ?xa) (c := ?xc) ?x1 ?x2 ?_); (case x1 => rfl); (case x2 => walk_at "hc"))
  | ((with_reducible refine r_methC (a := ?xa) (c := ?xc) ?x1 ?x2 ?x3 ?_); (case x1 => rfl); (case x2 => walk_at "hc"); (case x3 => (intro _ _ _; rfl)))
  | (with_reducible refine r_fmtB ?_)
  | (with_reducible refine r_dget ?_)
  | (with_reducible refine r_m0 ?_)
  | (with_reducible refine r_makeK ?_)
  | (with_reducible refine r_cval ?_)
  | (with_reducible refine r_sfld ?_)
  | (with_reducible refine r_isiI ?_)
  | (with_reducible refine r_isiIB ?_)
  | (with_reducible refine r_isiS ?_)
  | (with_reducible refine r_inID ?_))

/-! ### the text's rows -/
theorem em_wd (c : CodeD) (w : Nat) : ∀ (n : Nat) (b : List Nat), b.length ≤ n → em { c with wd := w } b = em c b
  | n, b, h => by
    by_cases e : 1 ≤ c.sb ∧ c.sb ≤ b.length
    · match n, h with
      | 0, h => omega
      | n + 1, h =>
        rw [em_on e.1 e.2, em_on (c := { c with wd := w }) e.1 e.2]
        show sgnOf c _ :: em { c with wd := w } (b.drop c.sb) = _
        rw [em_wd c w n (b.drop c.sb) (by rw [List.length_drop]; omega)]
    · rw [em, dif_neg e, em, dif_neg e]
theorem rs_wd (c : CodeD) (w : Nat) : ∀ (n : Nat) (b : List Nat), b.length ≤ n → rs { c with wd := w } b = rs c b
  | n, b, h => by
    by_cases e : 1 ≤ c.sb ∧ c.sb ≤ b.length
    · match n, h with
      | 0, h => omega
      | n + 1, h =>
        rw [rs_on e.1 e.2, rs_on (c := { c with wd := w }) e.1 e.2]
        show rs { c with wd := w } (b.drop c.sb) = _
        rw [rs_wd c w n (b.drop c.sb) (by rw [List.length_drop]; omega)]
    · rw [rs, dif_neg e, rs, dif_neg e]
structure Pst where
  p : List Nat
  b : List Nat
  sn : Nat
def pstep (c : CodeD) (s : Pst) (x : Int) : Pst := ⟨s.p ++ em c (s.b ++ b8 x.toNat), rs c (s.b ++ b8 x.toNat), snN (grp c.sb) s.sn (em c (s.b ++ b8 x.toNat)).length⟩
def prun (c : CodeD) (xs : List Int) : Pst := xs.foldl (pstep c) ⟨[], [], 0⟩
def plain (c : CodeD) (xs : List Int) : List Nat := (prun c xs).p ++ endS c (prun c xs).b (prun c xs).sn
theorem pstep_wd (c : CodeD) (w : Nat) (s : Pst) (x : Int) : pstep { c with wd := w } s x = pstep c s x := by
  unfold pstep
  rw [em_wd c w _ _ (Nat.le_refl _), rs_wd c w _ _ (Nat.le_refl _)]
theorem plain_wd (c : CodeD) (w : Nat) (xs : List Int) : plain { c with wd := w } xs = plain c xs := by
  have h : ∀ (xs : List Int) (s : Pst), xs.foldl (pstep { c with wd := w }) s = xs.foldl (pstep c) s := by
    intro xs
    induction xs with
    | nil => intro s; rfl
    | cons x r ih => intro s; rw [List.foldl_cons, List.foldl_cons, pstep_wd, ih]
  unfold plain prun
  rw [h]
  rfl
theorem plcs_full {c : CodeD} {col : Nat} (h : c.full col = true) : ∀ {l : List Nat}, l ≠ [] → plcs c col l = (10 :: (plcs c 0 l).1, (plcs c 0 l).2)
  | s :: r, _ => by
    have hw : 0 < c.wd := by
      unfold CodeD.full at h
      simp at h
      exact h.1
    have h0 : c.full 0 = false := by
      unfold CodeD.full
      rw [decide_eq_false (show ¬ 0 = c.wd by omega), Bool.and_false]
    have e1 : c.plc col s = ([10, s], 1) := by unfold CodeD.plc; rw [if_pos h]
    have e2 : c.plc 0 s = ([s], 1) := by
      unfold CodeD.plc CodeD.nxt
      rw [if_neg (by rw [h0]; exact Bool.false_ne_true), if_pos hw]
    simp only [plcs, e1, e2]
    rfl
  | [], h => absurd rfl h
/-- how the two runs go together -/
def Tog (c : CodeD) (s : Wst) (p : Pst) : Prop := s.b = p.b ∧ s.sn = p.sn ∧ ((s.out.flatten = (plcs c 0 p.p).1 ∧ s.col = (plcs c 0 p.p).2) ∨
  (s.b ≠ [] ∧ c.full (plcs c 0 p.p).2 = true ∧ s.out.flatten = (plcs c 0 p.p).1 ++ [10] ∧ s.col = 0))
theorem Tog.place {c : CodeD} {s : Wst} {p : Pst} (h : Tog c s p) {l : List Nat} (hl : s.b ≠ [] → l ≠ []) :
    s.out.flatten ++ (plcs c s.col l).1 = (plcs c 0 (p.p ++ l)).1 ∧ (plcs c s.col l).2 = (plcs c 0 (p.p ++ l)).2 ∨ (l = [] ∧ s.b = []) := by
  obtain ⟨h1, h2, ⟨h3, h4⟩ | ⟨h3, h4, h5, h6⟩⟩ := h
  · left
    rw [h3, h4, plcs_app]
    exact ⟨rfl, rfl⟩
  · left
    rw [h5, h6, plcs_app, plcs_full h4 (hl h3)]
    simp
theorem Tog.step {c : CodeD} (ok : c.Ok) {s : Wst} {p : Pst} (h : Tog c s p) (x : Int) : Tog c (wstep c s x) (pstep c p x) := by
  have b1 := ok.b1
  have b6 := ok.b6
  have hlen : c.sb ≤ (s.b ++ b8 x.toNat).length := by
    rw [List.length_append]
    show c.sb ≤ s.b.length + 8
    omega
  have hne : em c (s.b ++ b8 x.toNat) ≠ [] := by
    rw [em_on b1 hlen]
    simp
  have hp : s.out.flatten ++ (plcs c s.col (em c (s.b ++ b8 x.toNat))).1 = (plcs c 0 (p.p ++ em c (s.b ++ b8 x.toNat))).1 ∧ (plcs c s.col (em c (s.b ++ b8 x.toNat))).2 = (plcs c 0 (p.p ++ em c (s.b ++ b8 x.toNat))).2 := by
    rcases h.place (l := em c (s.b ++ b8 x.toNat)) (fun _ => hne) with z | z
    · exact z
    · exact absurd z.1 hne
  obtain ⟨e1, e2, _⟩ := h
  unfold wstep pstep
  rw [← e1, ← e2]
  refine ⟨rfl, rfl, ?_⟩
  show ((s.out ++ [(wP c (s.b ++ b8 x.toNat) s.col).1]).flatten = _ ∧ (wP c (s.b ++ b8 x.toNat) s.col).2 = _) ∨ (rs c (s.b ++ b8 x.toNat) ≠ [] ∧ c.full _ = true ∧ (s.out ++ [(wP c (s.b ++ b8 x.toNat) s.col).1]).flatten = _ ∧ (wP c (s.b ++ b8 x.toNat) s.col).2 = 0)
  rw [List.flatten_append]
  unfold wP
  split
  · rename_i z
    right
    refine ⟨z.1, by rw [← hp.2]; exact z.2, ?_, rfl⟩
    show s.out.flatten ++ [(plcs c s.col (em c (s.b ++ b8 x.toNat))).1 ++ [10]].flatten = _
    rw [List.flatten_cons, List.flatten_nil, List.append_nil, ← List.append_assoc, hp.1]
  · left
    refine ⟨?_, hp.2⟩
    rw [List.flatten_cons, List.flatten_nil, List.append_nil]
    exact hp.1
theorem text_plain {c : CodeD} (ok : c.Ok) (xs : List Int) : textC c xs = (plcs c 0 (plain c xs)).1 := by
  have h : ∀ (xs : List Int) (s : Wst) (p : Pst), Tog c s p → Tog c (xs.foldl (wstep c) s) (xs.foldl (pstep c) p) := by
    intro xs
    induction xs with
    | nil => intro s p h; exact h
    | cons x r ih => intro s p h; exact ih _ _ (h.step ok x)
  have t : Tog c (wrun c xs) (prun c xs) := h xs _ _ ⟨rfl, rfl, .inl ⟨rfl, rfl⟩⟩
  have e1 := t.1
  have e2 := t.2.1
  unfold textC plain
  rw [← e1, ← e2]
  rcases t.place (l := endS c (wrun c xs).b (wrun c xs).sn) (fun z => by unfold endS; rw [if_neg z]; simp) with z | z
  · exact z.1
  · obtain ⟨_, _, ⟨h3, h4⟩ | ⟨h3, _⟩⟩ := t
    · rw [z.1, List.append_nil, ← h3]
      exact List.append_nil _
    · exact absurd z.2 h3
theorem plcs_zero {c : CodeD} (h : c.wd = 0) : ∀ (l : List Nat), plcs c 0 l = (l, 0)
  | [] => rfl
  | s :: r => by
    have e : c.plc 0 s = ([s], 0) := by
      unfold CodeD.plc CodeD.full CodeD.nxt
      rw [h]
      rfl
    simp only [plcs, e, plcs_zero h r]
    rfl
theorem rows_of {c : CodeD} (hw : 0 < c.wd) : ∀ (l cur : List Nat), cur.length ≤ c.wd → (l = [] → cur ≠ [] ∨ cur = []) →
    ∃ (rws : List (List Nat)) (last : List Nat), cur ++ (plcs c cur.length l).1 = KR.jn (rws ++ [last]) ∧ (∀ r ∈ rws, r.length = c.wd) ∧ last.length ≤ c.wd ∧ (l ≠ [] ∨ cur ≠ [] → 1 ≤ last.length) ∧ rws.flatten ++ last = cur ++ l
  | [], cur, hc, _ => ⟨[], cur, by simp [plcs, KR.jn], fun r hr => (nomatch hr), hc, fun h => by
      rcases h with h | h
      · exact absurd rfl h
      · exact Nat.pos_of_ne_zero fun z => h (List.eq_nil_of_length_eq_zero z), by simp⟩
  | s :: r, cur, hc, _ => by
    by_cases hf : c.full cur.length = true
    · have hl : cur.length = c.wd := by
        unfold CodeD.full at hf
        simp at hf
        exact hf.2
      have e : c.plc cur.length s = ([10, s], 1) := by unfold CodeD.plc; rw [if_pos hf]
      obtain ⟨rws, last, h1, h2, h3, h4, h5⟩ := rows_of hw r [s] (show 1 ≤ c.wd from hw) (fun _ => .inl (by simp))
      refine ⟨cur :: rws, last, ?_, ?_, h3, fun _ => h4 (.inr (by simp)), ?_⟩
      · simp only [plcs, e]
        show _ = KR.jn (cur :: (rws ++ [last]))
        rw [KR.jn_cons (by simp), ← h1]
        rfl
      · intro x hx
        rcases List.mem_cons.mp hx with rfl | hx
        · exact hl
        · exact h2 x hx
      · rw [List.flatten_cons, List.append_assoc, h5]
        rfl
    · have hl : cur.length < c.wd := by
        unfold CodeD.full at hf
        simp at hf
        have := hf hw
        omega
      have e : c.plc cur.length s = ([s], cur.length + 1) := by unfold CodeD.plc CodeD.nxt; rw [if_neg hf, if_pos hw]
      obtain ⟨rws, last, h1, h2, h3, h4, h5⟩ := rows_of hw r (cur ++ [s]) (by simp; omega) (fun _ => .inl (by simp))
      refine ⟨rws, last, ?_, h2, h3, fun _ => h4 (.inr (by simp)), by rw [h5]; simp⟩
      rw [← h1]
      simp only [plcs, e, List.length_append, List.length_cons, List.length_nil]
      simp

theorem sgn_in {c : CodeD} {d : Nat} (h : d < c.sg.length) : sgnOf c d ∈ c.sg.cps.toList := by
  have h' : d < c.sg.cps.toList.length := by rw [Array.length_toList]; exact h
  unfold sgnOf
  rw [List.getD_eq_getElem?_getD, List.getElem?_eq_getElem h']
  exact List.getElem_mem h'
theorem em_in {c : CodeD} (ok : c.Ok) : ∀ (n : Nat) (b : List Nat), b.length ≤ n → Bits b → ∀ x ∈ em c b, x ∈ c.sg.cps.toList
  | n, b, h, hb, x, hx => by
    by_cases e : 1 ≤ c.sb ∧ c.sb ≤ b.length
    · match n, h with
      | 0, h => omega
      | n + 1, h =>
        rw [em_on e.1 e.2] at hx
        rcases List.mem_cons.mp hx with rfl | hx
        · refine sgn_in ?_
          have l := bin_lt (hb.take c.sb)
          rw [List.length_take, Nat.min_eq_left e.2] at l
          rw [ok.ln]
          exact l
        · exact em_in ok n (b.drop c.sb) (by rw [List.length_drop]; omega) (hb.drop _) x hx
    · rw [em, dif_neg e] at hx
      exact (nomatch hx)
/-- what the plain text is made of -/
theorem plain_sg {c : CodeD} (ok : c.Ok) (xs : List Int) : ∀ x ∈ plain c xs, Sg x := by
  have h : ∀ (xs : List Int) (s : Pst), Bits s.b ∧ s.b.length < c.sb ∧ (∀ x ∈ s.p, Sg x) → Bits (xs.foldl (pstep c) s).b ∧ (xs.foldl (pstep c) s).b.length < c.sb ∧ ∀ x ∈ (xs.foldl (pstep c) s).p, Sg x := by
    intro xs
    induction xs with
    | nil => intro s h; exact h
    | cons x r ih =>
      intro s ⟨h1, h2, h3⟩
      refine ih _ ⟨?_, ?_, ?_⟩
      · obtain ⟨_, k, i2⟩ := rs_sub c _ (s.b ++ b8 x.toNat) (Nat.le_refl _) ok.b1
        show Bits (rs c _)
        rw [i2]
        exact (h1.app (b8_bits _)).drop k
      · exact (rs_sub c _ (s.b ++ b8 x.toNat) (Nat.le_refl _) ok.b1).1
      · intro y hy
        rcases List.mem_append.mp hy with m | m
        · exact h3 y m
        · exact ok.sgs y (em_in ok _ _ (Nat.le_refl _) (h1.app (b8_bits _)) y m)
  obtain ⟨h1, h2, h3⟩ := h xs ⟨[], [], 0⟩ ⟨fun x hx => (nomatch hx), ok.b1, fun x hx => (nomatch hx)⟩
  intro x hx
  rcases List.mem_append.mp hx with m | m
  · exact h3 x m
  · unfold endS at m
    split at m
    · exact (nomatch m)
    · rcases List.mem_cons.mp m with rfl | m
      · refine ok.sgs _ (sgn_in ?_)
        have hb : Bits ((prun c xs).b ++ List.replicate (c.sb - (prun c xs).b.length) 48) := Bits.app h1 fun y hy => .inl (List.eq_of_mem_replicate hy)
        have l := bin_lt hb
        have hl : (prun c xs).b.length < c.sb := h2
        rw [List.length_append, List.length_replicate, show (prun c xs).b.length + (c.sb - (prun c xs).b.length) = c.sb by omega] at l
        rw [ok.ln]
        exact l
      · unfold padL miss at m
        by_cases e : c.pd.cps.toList = []
        · rw [if_pos e] at m
          exact (nomatch m)
        · rw [List.eq_of_mem_replicate m]
          refine ok.pds _ ?_
          cases hl : c.pd.cps.toList with
          | nil => exact absurd hl e
          | cons y r => exact List.mem_cons_self
theorem join_jn : ∀ ps : List (List Nat), Str.join (tx [10]) (ps.map tx) = tx (KR.jn ps)
  | [] => rfl
  | [x] => rfl
  | x :: y :: r => by
    have ih := join_jn (y :: r)
    rw [List.map_cons, List.map_cons, join_cons_cons]
    rw [List.map_cons] at ih
    rw [ih, tx_app, tx_app, List.append_assoc]
    rfl
theorem split_jn {ps : List (List Nat)} (h : ps ≠ []) (hf : ∀ x ∈ ps, KR.Free x) : Txt.split (tx (KR.jn ps)) (tx [10]) = ps.map tx := by
  have e := PySem.StrLaws.join_split (tx (KR.jn ps)) (tx [10])
  have f := PySem.StrLaws.split_free (tx (KR.jn ps)) 10
  have pos := split_pos (tx (KR.jn ps)) (tx [10])
  have f' : ∀ y ∈ Txt.split (tx (KR.jn ps)) (tx [10]), 10 ∉ y.cps.toList := f
  generalize Txt.split (tx (KR.jn ps)) (tx [10]) = parts at e f' pos
  have ep : parts = (parts.map fun z => z.cps.toList).map tx := by
    rw [List.map_map]
    have : (tx ∘ fun z : Str => z.cps.toList) = id := funext fun z => (tx_of z).symm
    rw [this, List.map_id]
  rw [ep, join_jn] at e
  have e2 := tx_inj e
  have e3 := KR.jn_inj (p := parts.map fun z => z.cps.toList) (q := ps) (by
    intro z
    have := List.length_eq_zero_iff.mpr z
    rw [List.length_map] at this
    omega) h (fun x hx => by
    obtain ⟨y, hy, rfl⟩ := List.mem_map.mp hx
    intro d hd z
    exact f' y hy (z ▸ hd)) hf e2
  rw [ep, e3]
/-- the rows of a wide text -/
theorem rows_split {c : CodeD} (ok : c.Ok) (hw : 0 < c.wd) (xs : List Int) : ∃ (rws : List (List Nat)) (last : List Nat), Txt.split (tx (textC c xs)) (tx [10]) = (rws ++ [last]).map tx ∧ (∀ r ∈ rws, r.length = c.wd) ∧ last.length ≤ c.wd ∧
    (plain c xs ≠ [] → 1 ≤ last.length) ∧ rws.flatten ++ last = plain c xs ∧ textC c xs = KR.jn (rws ++ [last]) := by
  obtain ⟨rws, last, h1, h2, h3, h4, h5⟩ := rows_of hw (plain c xs) [] (Nat.zero_le _) (fun _ => .inr rfl)
  have sg := plain_sg ok xs
  have e : textC c xs = KR.jn (rws ++ [last]) := by
    rw [text_plain ok]
    exact h1
  refine ⟨rws, last, ?_, h2, h3, fun z => h4 (.inl z), h5, e⟩
  rw [e]
  refine split_jn (by simp) ?_
  intro x hx d hd z
  have m : d ∈ plain c xs := by
    rw [← show rws.flatten ++ last = plain c xs from h5]
    rcases List.mem_append.mp hx with m | m
    · exact List.mem_append_left _ (List.mem_flatten.mpr ⟨x, m, hd⟩)
    · rw [List.mem_singleton.mp m] at hd
      exact List.mem_append_right _ hd
  have := sg d m
  unfold Sg at this
  omega

end
section
variable {P : Program} {w : World} {K : PySem.W.Frag} {mg : Str → Option Value} {base : Heap}
local macro_rules | `(tactic| walk_at "hc") => `(tactic| first
  | assumption
  | ((refine CodeAt.same (H := ?xH) ?xb ?xa); (case xa => assumption); (case xb => walk_at "hc")))
local macro_rules | `(tactic| walk_at "rd0") => `(tactic| first
  | ((with_reducible refine r_get (a := ?xa) (c := ?xc) ?x1 ?x2 ?_); (case x1 => rfl); (case x2 => walk_at "hc"))
  | ((with_reducible refine r_methC (a := ?xa) (c := ?xc) ?x1 ?x2 ?x3 ?_); (case x1 => rfl); (case x2 => walk_at "hc"); (case x3 => (intro _ _ _; rfl)))
  | (with_reducible refine r_fmtB ?_)
  | (with_reducible refine r_dget ?_)
  | (with_reducible refine r_m0 ?_)
  | (with_reducible refine r_makeK ?_)
  | (with_reducible refine r_cval ?_)
  | (with_reducible refine r_sfld ?_)
  | (with_reducible refine r_isiI ?_)
  | (with_reducible refine r_isiIB ?_)
  | (with_reducible refine r_isiS ?_)
  | (with_reducible refine r_inID ?_))

/-! ### what the law draws -/
def alls : List Nat := List.range' 33 4 ++ List.range' 38 89
def sp_l_all_signs (T : Txt K mg) : Sp := fun vs H Q _ => vs = [] ∧ Q (.str (tx alls)) H
theorem len_l_all_signs (T : Txt K mg) (vs : List V) (H : Hp) (Q : VK) (E : XK) (h : sp_l_all_signs T vs H Q E) : vs.length = 0 := by
  obtain ⟨rfl, _⟩ := h
  rfl
theorem alls_eq : Str.ofString "!\"#$&'()*+,-./0123456789:;<=>?@" ++ Str.ofString "ABCDEFGHIJKLMNOPQRSTUVWXYZ" ++ Str.ofString "[\\]^_`" ++ Txt.lower (Str.ofString "ABCDEFGHIJKLMNOPQRSTUVWXYZ") ++ Str.ofString "{|}~" = tx alls := by decide +kernel
def t_l_all_signs (T : Txt K mg) : TS := (tSeq (tAsg (tC (.str (Str.ofString "ABCDEFGHIJKLMNOPQRSTUVWXYZ"))) (gName 0))
    (tRet (tOp (rAddU K) (tOp (rAddU K) (tOp (rAddU K) (tOp (rAddU K) (tC (.str (Str.ofString "!\"#$&'()*+,-./0123456789:;<=>?@"))) (tVar 0)) (tC (.str (Str.ofString "[\\]^_`")))) (tM0 rLower (tVar 0))) (tC (.str (Str.ofString "{|}~"))))))

theorem pure_l_all_signs (T : Txt K mg) (vs : List V) (H : Hp) (Q : VK) (E : XK) (h : sp_l_all_signs T vs H Q E) : t_l_all_signs T { nx := fun _ H' => Q .non H', rt := Q } (start ["_law_capitals"] vs) H := by
  obtain ⟨rfl, q⟩ := h
  unfold t_l_all_signs
  walk_at "rd"
  refine r_addUS (by decide +kernel) ?_
  walk_at "rd"
  refine r_addUS (by decide +kernel) ?_
  walk_at "rd"
  refine ⟨⟨_, rfl⟩, _, rfl, rfl, by decide +kernel, ?_⟩
  refine r_addUS (by decide +kernel) ?_
  walk_at "rd"
  refine r_addUS (by decide +kernel) ?_
  rw [alls_eq]
  exact q
theorem ok_l_all_signs (T : Txt K mg) : FnOk P w K mg base CX0 1 T.l_all_signs_a T.l_all_signs_d [] (sp_l_all_signs T) := by
  refine T.l_all_signs_f.ok sc_l_all_signs (fun vs H Q E h => len_l_all_signs T vs H Q E h) (fun cdv A outer s H vs Q E hr h => ⟨t_l_all_signs T, PSs.nox ?_, pure_l_all_signs T vs H Q E h⟩)
  have hu := hu64 hr
  exact (pss_cons (ps_set (i := 0) sc_l_all_signs.nd rfl (.inl rfl) pe_str)
      (pss_one (ps_ret (pe_op op_addU (pe_op op_addU (pe_op op_addU (pe_op op_addU pe_str (pv 0)) pe_str) (pe_lower (pv 0))) pe_str))))

/-- the code that is drawn: signs, pad -/
structure Drawn (z p : Str) : Prop where
  ex : ∃ n, 1 ≤ n ∧ n ≤ 6 ∧ z.length = 2 ^ n
  sz : Sgs z
  sp : Sgs p
  nd : z.cps.toList.Nodup
  pl : p.length ≤ 1
  dj : ∀ x ∈ p.cps.toList, x ∉ z.cps.toList
theorem cutV_take {l : List V} {k : Nat} (h : k ≤ l.length) : cutV l none (some (k : Int)) = l.take k := by
  unfold cutV
  rw [HT.sIx_none, sIx_le_nat rfl h]
  rfl
def dch (f pc k : Nat) : Nat := alls.getD ((f + pc * k) % 93) 0
def drow (f pc k : Nat) : List Nat := (List.range k).map (dch f pc)
theorem drow_len (f pc k : Nat) : (drow f pc k).length = k := by simp [drow]
theorem drow_succ (f pc k : Nat) : drow f pc (k + 1) = drow f pc k ++ [dch f pc k] := by simp [drow, List.range_succ]
theorem drow_take {f pc k n : Nat} (h : k ≤ n) : (drow f pc n).take k = drow f pc k := by
  unfold drow
  rw [← List.map_take, List.take_range, Nat.min_eq_left h]
theorem dch_sg (f pc k : Nat) : Sg (dch f pc k) := by
  have hl : alls.length = 93 := by decide
  have lt : (f + pc * k) % 93 < alls.length := by rw [hl]; exact Nat.mod_lt _ (by decide)
  have m : dch f pc k ∈ alls := by
    unfold dch
    rw [List.getD_eq_getElem?_getD, List.getElem?_eq_getElem lt]
    exact List.getElem_mem lt
  unfold alls at m
  rw [List.mem_append, List.mem_range'_1, List.mem_range'_1] at m
  unfold Sg
  omega
theorem drow_sg (f pc k : Nat) : ∀ c ∈ drow f pc k, Sg c := fun c hc => by
  obtain ⟨j, _, rfl⟩ := List.mem_map.mp hc
  exact dch_sg f pc j
theorem alls_nd : alls.Nodup := by decide
theorem dch_ne {f pc i j : Nat} (hpc : pc = 1 ∨ pc = 2 ∨ pc = 4 ∨ pc = 5 ∨ pc = 7 ∨ pc = 91) (h : i < j) (hj : j < 93) : dch f pc i ≠ dch f pc j := by
  have hl : alls.length = 93 := by decide
  have l1 : (f + pc * i) % 93 < alls.length := by rw [hl]; exact Nat.mod_lt _ (by decide)
  have l2 : (f + pc * j) % 93 < alls.length := by rw [hl]; exact Nat.mod_lt _ (by decide)
  intro e
  unfold dch at e
  rw [List.getD_eq_getElem?_getD, List.getElem?_eq_getElem l1, List.getD_eq_getElem?_getD, List.getElem?_eq_getElem l2] at e
  have e2 := (List.getElem_inj alls_nd).mp (show alls[(f + pc * i) % 93] = alls[(f + pc * j) % 93] from e)
  rcases hpc with rfl | rfl | rfl | rfl | rfl | rfl <;> omega
theorem drow_inj {f pc k : Nat} (hpc : pc = 1 ∨ pc = 2 ∨ pc = 4 ∨ pc = 5 ∨ pc = 7 ∨ pc = 91) (h : k ≤ 93) : (drow f pc k).Nodup := by
  unfold drow
  rw [List.nodup_iff_pairwise_ne, List.pairwise_map]
  refine List.Pairwise.imp_of_mem ?_ (List.pairwise_lt_range (n := k))
  intro a b _ hb hab
  exact dch_ne hpc hab (by have := List.mem_range.mp hb; omega)
theorem sum_one : ∀ l : List Nat, ((l.map fun c => tx [c]).map (·.length)).sum = l.length
  | [] => rfl
  | x :: r => by
    have ih := sum_one r
    simp only [List.map_cons, List.sum_cons, List.length_cons, tx_len, List.length_nil] at ih ⊢
    omega
instance (c : Nat) : Decidable (Sg c) := inferInstanceAs (Decidable (33 ≤ c ∧ c ≤ 126 ∧ c ≠ 37))
instance (z : Str) : Decidable (Sgs z) := inferInstanceAs (Decidable (∀ c ∈ z.cps.toList, Sg c))
def sp_l_code (T : Txt K mg) : Sp := fun vs H Q _ => ∃ (b : Addr) (n : Nat), vs = [.ref b] ∧ BagAt H b (n + 10) ∧
  ∀ p z d (w : Nat) H', SameB b H H' → BagAt H' b n → H p = none → H' p = some (.tup [.str z, .str d, .int w]) → Drawn z d → Q (.ref p) H'
theorem len_l_code (T : Txt K mg) (vs : List V) (H : Hp) (Q : VK) (E : XK) (h : sp_l_code T vs H Q E) : vs.length = 1 := by
  obtain ⟨_, _, rfl, _⟩ := h
  rfl
def t_l_code (T : Txt K mg) : TS := (tSeq (tAsg (tTup (tCons (tCall (sp_l_all_signs T) [] E0 tNil) (tCons (tCall (sp_l_of T) [] E0 (tCons (tVar 0) (tCons (tLst (tCons (tC (.int 2)) (tCons (tC (.int 4)) (tCons (tC (.int 8)) (tCons (tC (.int 16)) (tCons (tC (.int 32)) (tCons (tC (.int 64)) tNil))))))) tNil))) tNil))) (gTup K 2 (gCons (gName 1) (gCons (gName 2) gNil))))
    (tSeq (tAsg (tTup (tCons (tCall (sp_l_take T) [] E0 (tCons (tVar 0) (tCons (tC (.int 93)) tNil))) (tCons (tCall (sp_l_of T) [] E0 (tCons (tVar 0) (tCons (tLst (tCons (tC (.int 1)) (tCons (tC (.int 2)) (tCons (tC (.int 4)) (tCons (tC (.int 5)) (tCons (tC (.int 7)) (tCons (tC (.int 91)) tNil))))))) tNil))) tNil))) (gTup K 2 (gCons (gName 3) (gCons (gName 4) gNil))))
    (tSeq (tAsg (tLc (iRng1 (tCons (tOp (rAddU K) (tVar 2) (tC (.int 1))) tNil)) (gName 7) tYes (tOp (rIx K) (tVar 1) (tOp rModI (tOp (rAddU K) (tVar 3) (tOp (rMulU K) (tVar 4) (tVar 7))) (tC (.int 93)))) [7]) (gName 5))
    (tSeq (tAsg (tCall (sp_l_of T) [] E0 (tCons (tVar 0) (tCons (tLst (tCons (tC (.int 0)) (tCons (tC (.int 0)) (tCons (tC (.int 1)) (tCons (tC (.int 2)) (tCons (tC (.int 3)) (tCons (tC (.int 4)) (tCons (tC (.int 5)) (tCons (tC (.int 8)) (tCons (tC (.int 9)) (tCons (tC (.int 20)) tNil))))))))))) tNil))) (gName 6))
    (tSeq (tIfS (tTest (tOp (rEqU K) (tCall (sp_l_take T) [] E0 (tCons (tVar 0) (tCons (tC (.int 5)) tNil))) (tC (.int 0)))) (tRet (tTup (tCons (tC (.str (Str.ofString "0123456789ABCDEF"))) (tCons (tC (.str (Str.ofString ""))) (tCons (tVar 6) tNil))))) tNext)
    (tSeq (tIfS (tTest (tOp (rEqU K) (tCall (sp_l_take T) [] E0 (tCons (tVar 0) (tCons (tC (.int 6)) tNil))) (tC (.int 0)))) (tRet (tTup (tCons (tC (.str (Str.ofString "ABCDEFGHIJKLMNOPQRSTUVWXYZ234567"))) (tCons (tC (.str (Str.ofString "="))) (tCons (tVar 6) tNil))))) tNext)
    (tRet (tTup (tCons (tJoinU K (tC (.str (Str.ofString ""))) (tSl (rSlU K) (tVar 5) tNoPart (tPart (tVar 2)))) (tCons (tCall (sp_l_of T) [] E0 (tCons (tVar 0) (tCons (tLst (tCons (tC (.str (Str.ofString ""))) (tCons (tOp (rIx K) (tVar 5) (tVar 2)) tNil))) tNil))) (tCons (tVar 6) tNil)))))))))))

theorem pure_l_code (T : Txt K mg) (vs : List V) (H : Hp) (Q : VK) (E : XK) (h : sp_l_code T vs H Q E) : t_l_code T { nx := fun _ H' => Q .non H', rt := Q } (start ["_law_bag_here", "_law_some", "_law_many", "_law_first", "_law_pace", "_law_row", "_law_room", "_law_k"] vs) H := by
  obtain ⟨b, n, rfl, hB, q⟩ := h
  unfold t_l_code
  walk_at "rd"
  refine ⟨rfl, ?_⟩
  walk_at "rd"
  walk_at "new"
  refine ⟨b, p, _, n + 9, rfl, ql hv, hB.ne np, (hB.same hs).mono (by omega), by decide, by decide, fun j x H1 hx hB1 s1 => ?_⟩
  obtain ⟨m, rfl, hm1, hm6⟩ : ∃ m : Nat, x = .int ((2 ^ m : Nat) : Int) ∧ 1 ≤ m ∧ m ≤ 6 := by
    match j, hx with
    | 0, hx => exact ⟨1, (Option.some.inj hx).symm, by decide, by decide⟩
    | 1, hx => exact ⟨2, (Option.some.inj hx).symm, by decide, by decide⟩
    | 2, hx => exact ⟨3, (Option.some.inj hx).symm, by decide, by decide⟩
    | 3, hx => exact ⟨4, (Option.some.inj hx).symm, by decide, by decide⟩
    | 4, hx => exact ⟨5, (Option.some.inj hx).symm, by decide, by decide⟩
    | 5, hx => exact ⟨6, (Option.some.inj hx).symm, by decide, by decide⟩
    | j + 6, hx => cases hx
  have pm : 2 ^ m ≤ 64 := Nat.le_trans (Nat.pow_le_pow_right (by decide) hm6) (by decide)
  have pm1 : 1 ≤ 2 ^ m := Nat.one_le_two_pow
  have hlen : alls.length = 93 := by decide
  walk_at "rd"
  refine And.intro (by show 2 ≤ sizeLine; decide) ?_
  intro t1 nt1
  generalize hg1 : upd _ t1 _ = H2
  have s2 := same_of hg1 nt1
  have v2 := at_of hg1
  clear hg1
  have S2 : SameB b H H2 := (toB hs).trans (s1.trans (toB s2))
  walk_at "rd"
  refine ⟨b, 93, n + 8, rfl, hB1.same s2, by decide, by decide, fun r H3 r0 r1 hB3 s3 => ?_⟩
  obtain ⟨f, rfl⟩ : ∃ f : Nat, r = f := ⟨r.toNat, by omega⟩
  walk_at "rd"
  refine And.intro (by show 6 ≤ sizeLine; decide) ?_
  intro l2 nl2
  generalize hg2 : upd _ l2 _ = H4
  have s4 := same_of hg2 nl2
  have v4 := at_of hg2
  clear hg2
  walk_at "rd"
  refine ⟨b, l2, _, n + 7, rfl, ql v4, hB3.ne nl2, hB3.same s4, by decide, by decide, fun j2 x2 H5 hx2 hB5 s5 => ?_⟩
  obtain ⟨pc, rfl, hpc⟩ : ∃ pc : Nat, x2 = .int (pc : Nat) ∧ (pc = 1 ∨ pc = 2 ∨ pc = 4 ∨ pc = 5 ∨ pc = 7 ∨ pc = 91) := by
    match j2, hx2 with
    | 0, hx => exact ⟨1, (Option.some.inj hx).symm, by decide⟩
    | 1, hx => exact ⟨2, (Option.some.inj hx).symm, by decide⟩
    | 2, hx => exact ⟨4, (Option.some.inj hx).symm, by decide⟩
    | 3, hx => exact ⟨5, (Option.some.inj hx).symm, by decide⟩
    | 4, hx => exact ⟨7, (Option.some.inj hx).symm, by decide⟩
    | 5, hx => exact ⟨91, (Option.some.inj hx).symm, by decide⟩
    | j + 6, hx => cases hx
  have hpc91 : pc ≤ 91 := by omega
  walk_at "rd"
  refine And.intro (by show 2 ≤ sizeLine; decide) ?_
  intro t3 nt3
  generalize hg3 : upd _ t3 _ = H6
  have s6 := same_of hg3 nt3
  have v6 := at_of hg3
  clear hg3
  have hB6 := hB5.same s6
  have S6 : SameB b H H6 := S2.trans (s3.trans ((toB s4).trans (s5.trans (toB s6))))
  walk_at "rd"
  refine r_one ⟨by omega, by omega⟩ fun D nD => ?_
  have nDb : D ≠ b := hB6.ne nD
  refine c_it (walk_range (lo := 0) (n := (((2 ^ m : Nat) : Int) + 1).toNat)) (fun i G => G D = some (.lst ((drow f pc i).map fun c => V.str (tx [c]))) ∧ Same H6 G) ⟨upd_same, same_new nD⟩ (fun _ _ _ _ => trivial) ?_ ?_
  · rintro i x G G' hi ⟨hD, sG⟩ ⟨rfl, rfl⟩
    have hi' : i ≤ 64 := by omega
    walk_at "rd"
    refine ⟨rfl, ?_⟩
    walk_at "rd"
    have em1 : ((f : Int) + (pc : Int) * (0 + (i : Int))).fmod 93 = (((f + pc * i) % 93 : Nat) : Int) := by
      rw [Int.fmod_eq_emod_of_nonneg _ (by decide), Int.zero_add, Int.natCast_emod, Int.natCast_add, Int.natCast_mul]
      rfl
    rw [em1]
    have lt93 : (f + pc * i) % 93 < alls.length := by rw [hlen]; exact Nat.mod_lt _ (by decide)
    refine r_ixS (c := dch f pc i) (smallS (by rw [tx_len, hlen]; decide)) ?_ ?_
    · rw [tx_list]
      refine atI_nat ?_
      unfold dch
      rw [List.getD_eq_getElem?_getD, List.getElem?_eq_getElem lt93]
      rfl
    refine ⟨_, hD, ?_, ?_, same_mut sG nD⟩
    · rw [List.length_map, drow_len]
      exact Nat.lt_of_le_of_lt hi' (by rw [sizeLine_eq]; decide)
    · rw [upd_same, drow_succ, List.map_append]
      rfl
  rintro G ⟨hD, sG⟩
  rw [show (((2 ^ m : Nat) : Int) + 1).toNat = 2 ^ m + 1 by omega] at hD
  walk_at "rd"
  refine And.intro (by show 10 ≤ sizeLine; decide) ?_
  intro l4 nl4
  generalize hg4 : upd _ l4 _ = H7
  have s7 := same_of hg4 nl4
  have v7 := at_of hg4
  clear hg4
  have hBG := hB6.same sG
  walk_at "rd"
  refine ⟨b, l4, _, n + 6, rfl, ql v7, hBG.ne nl4, hBG.same s7, by decide, by decide, fun j3 x3 H8 hx3 hB8 s8 => ?_⟩
  obtain ⟨w0, rfl⟩ : ∃ w0 : Nat, x3 = .int (w0 : Nat) := by
    match j3, hx3 with
    | 0, hx => exact ⟨0, (Option.some.inj hx).symm⟩
    | 1, hx => exact ⟨0, (Option.some.inj hx).symm⟩
    | 2, hx => exact ⟨1, (Option.some.inj hx).symm⟩
    | 3, hx => exact ⟨2, (Option.some.inj hx).symm⟩
    | 4, hx => exact ⟨3, (Option.some.inj hx).symm⟩
    | 5, hx => exact ⟨4, (Option.some.inj hx).symm⟩
    | 6, hx => exact ⟨5, (Option.some.inj hx).symm⟩
    | 7, hx => exact ⟨8, (Option.some.inj hx).symm⟩
    | 8, hx => exact ⟨9, (Option.some.inj hx).symm⟩
    | 9, hx => exact ⟨20, (Option.some.inj hx).symm⟩
    | j + 10, hx => cases hx
  have S8 : SameB b H H8 := S6.trans ((toB (sG.trans s7)).trans s8)
  have hD8 : H8 D = some (.lst ((drow f pc (2 ^ m + 1)).map fun c => V.str (tx [c]))) := s8 _ _ nDb (s7 _ _ hD)
  walk_at "rd"
  refine ⟨b, 5, n + 5, rfl, hB8, by decide, by decide, fun r2 H9 r20 r21 hB9 s9 => ?_⟩
  have hD9 := s9 _ _ nDb hD8
  have S9 := S8.trans s9
  walk_at "rd"
  refine r_iteD (fun h5 => ?_) (fun h5 => ?_)
  · walk_at "rd"
    refine And.intro (by show 3 ≤ sizeLine; decide) ?_
    intro t5 nt5
    generalize hg5 : upd _ t5 _ = H10
    have s10 := same_of hg5 nt5
    have v10 := at_of hg5
    exact q t5 _ _ w0 H10 (S9.trans (toB s10)) ((hB9.same s10).mono (by omega)) (S9.free (hB9.ne nt5) nt5) v10 ⟨⟨4, by decide, by decide, by decide⟩, by decide +kernel, by decide +kernel, by decide +kernel, by decide, by decide +kernel⟩
  walk_at "rd"
  refine ⟨b, 6, n + 4, rfl, hB9, by decide, by decide, fun r3 H10 r30 r31 hB10 s10 => ?_⟩
  have hD10 := s10 _ _ nDb hD9
  have S10 := S9.trans s10
  walk_at "rd"
  refine r_iteD (fun h6 => ?_) (fun h6 => ?_)
  · walk_at "rd"
    refine And.intro (by show 3 ≤ sizeLine; decide) ?_
    intro t5 nt5
    generalize hg5 : upd _ t5 _ = H11
    have s11 := same_of hg5 nt5
    have v11 := at_of hg5
    exact q t5 _ _ w0 H11 (S10.trans (toB s11)) ((hB10.same s11).mono (by omega)) (S10.free (hB10.ne nt5) nt5) v11 ⟨⟨5, by decide, by decide, by decide⟩, by decide +kernel, by decide +kernel, by decide +kernel, by decide, by decide +kernel⟩
  walk_at "rd"
  refine r_join ?_ rfl
  walk_at "rd"
  refine r_slUL (ql hD10) ?_
  intro l6 nl6
  generalize hg6 : upd _ l6 _ = H11
  have s11 := same_of hg6 nl6
  have v11 := at_of hg6
  clear hg6
  rw [cutV_take (by rw [List.length_map, drow_len]; omega), ← List.map_take, drow_take (by omega)] at v11
  have hD11 := s11 _ _ hD10
  refine ⟨_, l6, (drow f pc (2 ^ m)).map fun c => tx [c], rfl, rfl, .inl (ql (by rw [List.map_map]; exact v11)), ?_, ?_⟩
  · have e0 : (Str.ofString "").length = 0 := rfl
    rw [e0, Nat.mul_zero, Nat.add_zero]
    have := sum_one (drow f pc (2 ^ m))
    rw [drow_len] at this
    omega
  have ej : Txt.join (Str.ofString "") ((drow f pc (2 ^ m)).map fun c => tx [c]) = tx (drow f pc (2 ^ m)) := by
    have := txt_join_tx ((drow f pc (2 ^ m)).map fun c => [c])
    rw [List.map_map] at this
    have e : (tx ∘ fun c => [c]) = fun c : Nat => tx [c] := rfl
    rw [e] at this
    rw [this]
    congr 1
    induction drow f pc (2 ^ m) with
    | nil => rfl
    | cons y r ih => rw [List.map_cons, List.flatten_cons, ih]; rfl
  rw [ej]
  have g1 : atI ((drow f pc (2 ^ m + 1)).map fun c => V.str (tx [c])) ((2 ^ m : Nat) : Int) = some (V.str (tx [dch f pc (2 ^ m)])) := by
    refine atI_nat ?_
    rw [List.getElem?_map, drow_succ, List.getElem?_append_right (by rw [drow_len]; exact Nat.le_refl _), drow_len, Nat.sub_self]
    rfl
  walk_at "rd"
  refine And.intro (by show 2 ≤ sizeLine; decide) ?_
  intro l7 nl7
  generalize hg7 : upd _ l7 _ = H12
  have s12 := same_of hg7 nl7
  have v12 := at_of hg7
  clear hg7
  have hB11 := hB10.same s11
  walk_at "rd"
  refine ⟨b, l7, _, n + 3, rfl, ql v12, hB11.ne nl7, hB11.same s12, (by show 0 < 2; decide), (by show 2 < 1000000; decide), fun j4 x4 H13 hx4 hB13 s13 => ?_⟩
  have S13 := S10.trans ((toB (s11.trans s12)).trans s13)
  have dj := drow_inj (f := f) hpc (k := 2 ^ m + 1) (by omega)
  have dsg := drow_sg f pc
  have fin : ∀ (d : Str) (t : Addr) (H' : Hp), Same H13 H' → H13 t = none → H' t = some (.tup [.str (tx (drow f pc (2 ^ m))), .str d, .int w0]) → (d = Str.ofString "" ∨ d = tx [dch f pc (2 ^ m)]) → Q (.ref t) H' := by
    intro d t H' sH nt ht hd
    refine q t _ _ w0 H' (S13.trans (toB sH)) ((hB13.same sH).mono (by omega)) (S13.free (hB13.ne nt) nt) ht ⟨⟨m, hm1, hm6, by rw [tx_len, drow_len]⟩, ?_, ?_, ?_, ?_, ?_⟩
    · intro c hc
      rw [tx_list] at hc
      exact dsg _ c hc
    · intro c hc
      rcases hd with rfl | rfl
      · exact (nomatch hc)
      · rw [tx_list] at hc
        rw [List.mem_singleton.mp hc]
        refine dsg (2 ^ m + 1) _ ?_
        rw [drow_succ]
        simp
    · rw [tx_list]
      rw [drow_succ] at dj
      exact (List.nodup_append.mp dj).1
    · rcases hd with rfl | rfl
      · exact Nat.zero_le _
      · rw [tx_len]; exact Nat.le_refl _
    · intro c hc m2
      rw [tx_list] at m2
      rcases hd with rfl | rfl
      · exact (nomatch hc)
      · rw [tx_list] at hc
        rw [List.mem_singleton.mp hc] at m2
        rw [drow_succ] at dj
        exact (List.nodup_append.mp dj).2.2 _ m2 _ (by simp) rfl
  match j4, hx4 with
  | 0, hx4 =>
    cases hx4
    walk_at "rd"
    refine And.intro (by show 3 ≤ sizeLine; decide) ?_
    intro t9 nt9
    exact fin _ t9 _ (same_new nt9) nt9 upd_same (.inl rfl)
  | 1, hx4 =>
    cases hx4
    walk_at "rd"
    refine And.intro (by show 3 ≤ sizeLine; decide) ?_
    intro t9 nt9
    exact fin _ t9 _ (same_new nt9) nt9 upd_same (.inr rfl)
  | j + 2, hx4 => cases hx4
theorem ok_l_code (T : Txt K mg) : FnOk P w K mg base CX0 3 T.l_code_a T.l_code_d ["_law_bag_here"] (sp_l_code T) := by
  refine T.l_code_f.ok sc_l_code (fun vs H Q E h => len_l_code T vs H Q E h) (fun cdv A outer s H vs Q E hr h => ⟨t_l_code T, PSs.nox ?_, pure_l_code T vs H Q E h⟩)
  have hu := hu64 hr
  exact (pss_cons (ps_asg (pe_tup (pa_cons (pe_call0 (ok_l_all_signs T) (hr.mono (by decide)) (by rfl) T.l_all_signs_g T.l_all_signs_f.kp T.l_all_signs_b .nil pass0) (pa_cons (pe_call (ok_l_of T) (hr.mono (by decide)) (by rfl) T.l_of_g T.l_of_f.kp T.l_of_b .nil pass0 (pa_cons (pv 0) (pa_cons (pe_lst (pa_cons pe_int (pa_cons pe_int (pa_cons pe_int (pa_cons pe_int (pa_cons pe_int (pa_cons pe_int pa_nil))))))) pa_nil))) pa_nil))) (pg_tup (by rfl) (pgs_cons (pg_name (i := 1) sc_l_code.nd rfl (.inr rfl)) (pgs_cons (pg_name (i := 2) sc_l_code.nd rfl (.inl rfl)) pgs_nil))))
      (pss_cons (ps_asg (pe_tup (pa_cons (pe_call (ok_l_take T) (hr.mono (by decide)) (by rfl) T.l_take_g T.l_take_f.kp T.l_take_b .nil pass0 (pa_cons (pv 0) (pa_cons pe_int pa_nil))) (pa_cons (pe_call (ok_l_of T) (hr.mono (by decide)) (by rfl) T.l_of_g T.l_of_f.kp T.l_of_b .nil pass0 (pa_cons (pv 0) (pa_cons (pe_lst (pa_cons pe_int (pa_cons pe_int (pa_cons pe_int (pa_cons pe_int (pa_cons pe_int (pa_cons pe_int pa_nil))))))) pa_nil))) pa_nil))) (pg_tup (by rfl) (pgs_cons (pg_name (i := 3) sc_l_code.nd rfl (.inr rfl)) (pgs_cons (pg_name (i := 4) sc_l_code.nd rfl (.inr rfl)) pgs_nil))))
      (pss_cons (ps_setLc (i := 5) (own := [("_law_k", 7)]) (g := (gName 7)) (tt := tYes) rfl sc_l_code.nd rfl rfl (sw_true rfl rfl rfl (by decide +kernel)) (pi_range1 (by rfl) T.n_range (pa_cons (pe_op op_addU (pv 2) pe_int) pa_nil)) (blkOk_by (own := [("_law_k", 7)]) (N := ["_law_bag_here", "_law_some", "_law_many", "_law_first", "_law_pace", "_law_row", "_law_room", "_law_k"]) (sc := defScope s_l_code) (by decide +kernel)) (fun _ _ _ _ _ => (pg_name (i := 7) sc_l_code.nd rfl (.inl rfl))) (fun _ _ _ _ _ => pts_nil) (fun _ _ _ _ _ => (pe_ix ix_seq (pv 1) (pe_op op_modN (pe_op op_addU (pv 3) (pe_op op_mulU (pv 4) (pv 7))) pe_int) (fun _ _ => rfl))))
      (pss_cons (ps_set (i := 6) sc_l_code.nd rfl (.inl rfl) (pe_call (ok_l_of T) (hr.mono (by decide)) (by rfl) T.l_of_g T.l_of_f.kp T.l_of_b .nil pass0 (pa_cons (pv 0) (pa_cons (pe_lst (pa_cons pe_int (pa_cons pe_int (pa_cons pe_int (pa_cons pe_int (pa_cons pe_int (pa_cons pe_int (pa_cons pe_int (pa_cons pe_int (pa_cons pe_int (pa_cons pe_int pa_nil))))))))))) pa_nil))))
      (pss_cons (ps_if (pt_cmpR (op_eqU hu) (pe_call (ok_l_take T) (hr.mono (by decide)) (by rfl) T.l_take_g T.l_take_f.kp T.l_take_b .nil pass0 (pa_cons (pv 0) (pa_cons pe_int pa_nil))) pe_int (nomark _)) (pss_one (ps_ret (pe_tup (pa_cons pe_str (pa_cons pe_str (pa_cons (pv 6) pa_nil)))))) pss_nil)
      (pss_cons (ps_if (pt_cmpR (op_eqU hu) (pe_call (ok_l_take T) (hr.mono (by decide)) (by rfl) T.l_take_g T.l_take_f.kp T.l_take_b .nil pass0 (pa_cons (pv 0) (pa_cons pe_int pa_nil))) pe_int (nomark _)) (pss_one (ps_ret (pe_tup (pa_cons pe_str (pa_cons pe_str (pa_cons (pv 6) pa_nil)))))) pss_nil)
      (pss_one (ps_ret (pe_tup (pa_cons (pe_join pe_str (pe_slice sl_U (pv 5) po_none (po_some (pv 2)))) (pa_cons (pe_call (ok_l_of T) (hr.mono (by decide)) (by rfl) T.l_of_g T.l_of_f.kp T.l_of_b .nil pass0 (pa_cons (pv 0) (pa_cons (pe_lst (pa_cons pe_str (pa_cons (pe_ix ix_seq (pv 5) (pv 2) (fun _ _ => rfl)) pa_nil))) pa_nil))) (pa_cons (pv 6) pa_nil))))))))))))


end
section
variable {P : Program} {w : World} {K : PySem.W.Frag} {mg : Str → Option Value} {base : Heap}
local macro_rules | `(tactic| walk_at "hc") => `(tactic| first
  | assumption
  | ((refine CodeAt.same (H := ?xH) ?xb ?xa); (case xa => assumption); (case xb => walk_at "hc")))
local macro_rules | `(tactic| walk_at "rd0") => `(tactic| first
  | ((with_reducible refine r_get (a := ?xa) (c := ?xc) ?x1 ?x2 ?_); (case x1 => rfl); (case x2 => walk_at "hc"))
  | ((with_reducible refine r_methC (a := ?xa) (c := ?xc) ?x1 ?x2 ?x3 ?_); (case x1 => rfl); (case x2 => walk_at "hc"); (case x3 => (intro _ _ _; rfl)))
  | (with_reducible refine r_fmtB ?_)
  | (with_reducible refine r_dget ?_)
  | (with_reducible refine r_m0 ?_)
  | (with_reducible refine r_makeK ?_)
  | (with_reducible refine r_cval ?_)
  | (with_reducible refine r_sfld ?_)
  | (with_reducible refine r_isiI ?_)
  | (with_reducible refine r_isiIB ?_)
  | (with_reducible refine r_isiS ?_)
  | (with_reducible refine r_inID ?_))

/-! ### what the law reckons itself -/
theorem cutV_any {l : List V} (lo hi : Option Int) : ∃ (a k : Nat), cutV l lo hi = (l.drop a).take k := ⟨_, _, rfl⟩
def sizeKvs : List (Key × V) := [(.inl 2, .int 1), (.inl 4, .int 2), (.inl 8, .int 3), (.inl 16, .int 4), (.inl 32, .int 5), (.inl 64, .int 6)]
theorem size_at {m : Nat} (h1 : 1 ≤ m) (h6 : m ≤ 6) : valV (mergeK [] sizeKvs) (.inl ((2 ^ m : Nat) : Int)) = some (V.int (m : Nat)) := by
  have e : m = 1 ∨ m = 2 ∨ m = 3 ∨ m = 4 ∨ m = 5 ∨ m = 6 := by omega
  rcases e with rfl | rfl | rfl | rfl | rfl | rfl <;> decide
def sp_l_size (T : Txt K mg) : Sp := fun vs H Q _ => ∃ (p : Addr) (z d : Str) (w m : Nat), vs = [.ref p] ∧ H p = some (.tup [.str z, .str d, .int w]) ∧ z.length = 2 ^ m ∧ 1 ≤ m ∧ m ≤ 6 ∧ ∀ H', Same H H' → Q (.int (m : Nat)) H'
theorem len_l_size (T : Txt K mg) (vs : List V) (H : Hp) (Q : VK) (E : XK) (h : sp_l_size T vs H Q E) : vs.length = 1 := by
  obtain ⟨_, _, _, _, _, rfl, _⟩ := h
  rfl
def t_l_size (T : Txt K mg) : TS := (tRet (tDGet (tDisp [((tC (.int 2)), (tC (.int 1))), ((tC (.int 4)), (tC (.int 2))), ((tC (.int 8)), (tC (.int 3))), ((tC (.int 16)), (tC (.int 4))), ((tC (.int 32)), (tC (.int 5))), ((tC (.int 64)), (tC (.int 6)))]) (tCB (rLenU K) (tCons (tOp (rIx K) (tVar 0) (tC (.int 0))) tNil))))

theorem pure_l_size (T : Txt K mg) (vs : List V) (H : Hp) (Q : VK) (E : XK) (h : sp_l_size T vs H Q E) : t_l_size T { nx := fun _ H' => Q .non H', rt := Q } (start ["_law_code_here"] vs) H := by
  obtain ⟨p, z, d, w, m, rfl, hp, hz, h1, h6, q⟩ := h
  unfold t_l_size
  walk_at "rd"
  intro D nD
  refine ⟨upd_same, sizeKvs, rfl, by decide, ?_⟩
  generalize hg : upd (upd H D _) D _ = Hn
  have hD : Hn D = some (.dK (mergeK [] sizeKvs)) := at_of hg
  have hs : Same H Hn := by rw [← hg]; exact same_mut (same_new nD) nD
  clear hg
  have hp1 := hs _ _ hp
  walk_at "rd"
  refine r_lenUS (smallS (by rw [hz]; exact Nat.le_trans (Nat.pow_le_pow_right (by decide) h6) (by decide))) ?_
  rw [hz]
  refine ⟨D, .int (m : Nat), rfl, ?_, q Hn hs⟩
  have := DGet.k (k := .inl ((2 ^ m : Nat) : Int)) hD
  rw [size_at h1 h6] at this
  exact this
theorem ok_l_size (T : Txt K mg) : FnOk P w K mg base CX0 1 T.l_size_a T.l_size_d ["_law_code_here"] (sp_l_size T) := by
  refine T.l_size_f.ok sc_l_size (fun vs H Q E h => len_l_size T vs H Q E h) (fun cdv A outer s H vs Q E hr h => ⟨t_l_size T, PSs.nox ?_, pure_l_size T vs H Q E h⟩)
  have hu := hu64 hr
  exact (pss_one (ps_ret (pe_dget (hu_of hr) (pe_disp (pps_cons pe_int pe_int (pps_cons pe_int pe_int (pps_cons pe_int pe_int (pps_cons pe_int pe_int (pps_cons pe_int pe_int (pps_cons pe_int pe_int pps_nil)))))) (by rfl) (by rfl) (fun h => nomatch h) (by decide)) (pe_callB c_lenU (by rfl) T.n_len (by decide +kernel) (pa_cons (pe_ix ix_seq (pv 0) pe_int (fun _ _ => rfl)) pa_nil)) (fun _ _ => rfl))))

def sp_l_data (T : Txt K mg) : Sp := fun vs H Q _ => ∃ (b : Addr) (k n : Nat), vs = [.ref b, .int k] ∧ BagAt H b (n + 1000) ∧ k ≤ 500 ∧
  ∀ p xs H', Byts xs → xs.length ≤ k → H p = none → H' p = some (.lst (xs.map V.int)) → SameB b H H' → BagAt H' b n → Q (.ref p) H'
theorem len_l_data (T : Txt K mg) (vs : List V) (H : Hp) (Q : VK) (E : XK) (h : sp_l_data T vs H Q E) : vs.length = 2 := by
  obtain ⟨_, _, _, rfl, _⟩ := h
  rfl
def t_l_data (T : Txt K mg) : TS := (tSeq (tAsg (tTup (tCons (tCall (sp_l_take T) [] E0 (tCons (tVar 0) (tCons (tC (.int 3)) tNil))) (tCons (tCall (sp_l_take T) [] E0 (tCons (tVar 0) (tCons (tOp (rAddU K) (tVar 1) (tC (.int 1))) tNil))) tNil))) (gTup K 2 (gCons (gName 2) (gCons (gName 3) gNil))))
    (tRet (tLc (iRng1 (tCons (tVar 3) tNil)) (gName 4) tYes (tIf (tTest (tOp (rEqU K) (tVar 2) (tC (.int 0)))) (tCall (sp_l_of T) [] E0 (tCons (tVar 0) (tCons (tLst (tCons (tC (.int 0)) (tCons (tC (.int 255)) (tCons (tC (.int 65)) (tCons (tC (.int 10)) (tCons (tC (.int 32)) tNil)))))) tNil))) (tCall (sp_l_take T) [] E0 (tCons (tVar 0) (tCons (tC (.int 256)) tNil)))) [4])))

theorem pure_l_data (T : Txt K mg) (vs : List V) (H : Hp) (Q : VK) (E : XK) (h : sp_l_data T vs H Q E) : t_l_data T { nx := fun _ H' => Q .non H', rt := Q } (start ["_law_bag_here", "_law_most", "_law_few", "_law_many", "_law_k"] vs) H := by
  obtain ⟨b, k, n, rfl, hB, hk, q⟩ := h
  unfold t_l_data
  walk_at "rd"
  refine ⟨b, 3, n + 999, rfl, hB, by decide, by decide, fun r H1 r0 r1 hB1 s1 => ?_⟩
  obtain ⟨few, rfl⟩ : ∃ j : Nat, r = j := ⟨r.toNat, by omega⟩
  walk_at "rd"
  refine ⟨b, (k : Int) + 1, n + 998, rfl, hB1, by omega, by omega, fun r2 H2 r20 r21 hB2 s2 => ?_⟩
  obtain ⟨cnt, rfl⟩ : ∃ j : Nat, r2 = j := ⟨r2.toNat, by omega⟩
  walk_at "rd"
  refine And.intro (by show 2 ≤ sizeLine; decide) ?_
  intro t nt
  generalize hg : upd _ t _ = H3
  have s3 := same_of hg nt
  have v3 := at_of hg
  clear hg
  have hB3 := hB2.same s3
  have S3 : SameB b H H3 := s1.trans (s2.trans (toB s3))
  walk_at "rd"
  refine r_one ⟨by omega, by omega⟩ fun D hD => ?_
  have nD : D ≠ b := hB3.ne hD
  refine c_it (walk_range (lo := 0) (n := cnt)) (fun i G => ∃ acc : List Int, acc.length = i ∧ Byts acc ∧ G D = some (.lst (acc.map V.int)) ∧ SameB b H3 G ∧ BagAt G b (n + (998 - i)))
    ⟨[], rfl, fun x hx => absurd hx List.not_mem_nil, upd_same, toB (same_new hD), hB3.same (same_new hD)⟩ (fun _ _ _ _ => trivial) ?_ ?_
  · rintro i x G G' hi ⟨acc, el, hd, hG, hsb, hb⟩ ⟨rfl, rfl⟩
    have fin : ∀ (z : Int) (G2 : Hp), 0 ≤ z → z ≤ 255 → BagAt G2 b (n + (998 - (i + 1))) → SameB b G' G2 → ∃ acc0, G2 D = some (.lst acc0) ∧ acc0.length < sizeLine ∧
        ∃ acc : List Int, acc.length = i + 1 ∧ Byts acc ∧ upd G2 D (.lst (acc0 ++ [.int z])) D = some (.lst (acc.map V.int)) ∧ SameB b H3 (upd G2 D (.lst (acc0 ++ [.int z]))) ∧ BagAt (upd G2 D (.lst (acc0 ++ [.int z]))) b (n + (998 - (i + 1))) := by
      intro z G2 z0 z1 hb3 hs3
      refine ⟨_, hs3 _ _ nD hG, by rw [List.length_map, el]; exact Nat.lt_of_lt_of_le hi (smallS (by omega)), acc ++ [z], by simp [el], ?_, by rw [upd_same, List.map_append]; rfl, ?_, hb3.upd nD⟩
      · intro y hy
        rcases List.mem_append.mp hy with h | h
        · exact hd y h
        · rw [List.mem_singleton.mp h]; exact ⟨z0, z1⟩
      · exact sameB_mut (hsb.trans hs3) hD
    walk_at "rd"
    refine ⟨rfl, ?_⟩
    walk_at "rd"
    refine r_iteD (fun h => ?_) (fun h => ?_)
    · walk_at "rd"
      walk_at "new"
      refine ⟨b, p, _, n + (998 - (i + 1)), rfl, ql hv, hb.ne np, (hb.same hs).mono (by omega), by decide, by decide, fun j x G2 hx hb3 hs3 => ?_⟩
      obtain ⟨z, rfl, hz⟩ : ∃ z : Int, x = .int z ∧ 0 ≤ z ∧ z ≤ 255 := by
        match j, hx with
        | 0, hx => exact ⟨0, (Option.some.inj hx).symm, by decide, by decide⟩
        | 1, hx => exact ⟨255, (Option.some.inj hx).symm, by decide, by decide⟩
        | 2, hx => exact ⟨65, (Option.some.inj hx).symm, by decide, by decide⟩
        | 3, hx => exact ⟨10, (Option.some.inj hx).symm, by decide, by decide⟩
        | 4, hx => exact ⟨32, (Option.some.inj hx).symm, by decide, by decide⟩
        | j + 5, hx => cases hx
      exact fin z G2 hz.1 hz.2 hb3 ((toB hs).trans hs3)
    · walk_at "rd"
      refine ⟨b, 256, n + (998 - (i + 1)), rfl, hb.mono (by omega), by decide, by decide, fun z G2 z0 z1 hb3 hs3 => ?_⟩
      exact fin z G2 z0 (by omega) hb3 hs3
  · rintro G ⟨acc, el, hd, hG, hs, hb⟩
    exact q D acc G hd (by omega) (S3.free nD hD) hG (S3.trans hs) (hb.mono (by omega))
theorem ok_l_data (T : Txt K mg) : FnOk P w K mg base CX0 3 T.l_data_a T.l_data_d ["_law_bag_here", "_law_most"] (sp_l_data T) := by
  refine T.l_data_f.ok sc_l_data (fun vs H Q E h => len_l_data T vs H Q E h) (fun cdv A outer s H vs Q E hr h => ⟨t_l_data T, PSs.nox ?_, pure_l_data T vs H Q E h⟩)
  have hu := hu64 hr
  exact (pss_cons (ps_asg (pe_tup (pa_cons (pe_call (ok_l_take T) (hr.mono (by decide)) (by rfl) T.l_take_g T.l_take_f.kp T.l_take_b .nil pass0 (pa_cons (pv 0) (pa_cons pe_int pa_nil))) (pa_cons (pe_call (ok_l_take T) (hr.mono (by decide)) (by rfl) T.l_take_g T.l_take_f.kp T.l_take_b .nil pass0 (pa_cons (pv 0) (pa_cons (pe_op op_addU (pv 1) pe_int) pa_nil))) pa_nil))) (pg_tup (by rfl) (pgs_cons (pg_name (i := 2) sc_l_data.nd rfl (.inr rfl)) (pgs_cons (pg_name (i := 3) sc_l_data.nd rfl (.inl rfl)) pgs_nil))))
      (pss_one (ps_ret (pe_lc (own := [("_law_k", 4)]) (g := (gName 4)) (tt := tYes) rfl sc_l_data.nd (pi_range1 (by rfl) T.n_range (pa_cons (pv 3) pa_nil)) (blkOk_by (own := [("_law_k", 4)]) (N := ["_law_bag_here", "_law_most", "_law_few", "_law_many", "_law_k"]) (sc := defScope s_l_data) (by decide +kernel)) (fun _ _ _ _ _ => (pg_name (i := 4) sc_l_data.nd rfl (.inl rfl))) (fun _ _ _ _ _ => pts_nil) (fun _ _ _ _ _ => (pe_ifExp (pt_cmpR (op_eqU hu) (pv 2) pe_int (nomark _)) (pe_call (ok_l_of T) (hr.mono (by decide)) (by rfl) T.l_of_g T.l_of_f.kp T.l_of_b .nil pass0 (pa_cons (pv 0) (pa_cons (pe_lst (pa_cons pe_int (pa_cons pe_int (pa_cons pe_int (pa_cons pe_int (pa_cons pe_int pa_nil)))))) pa_nil))) (pe_call (ok_l_take T) (hr.mono (by decide)) (by rfl) T.l_take_g T.l_take_f.kp T.l_take_b .nil pass0 (pa_cons (pv 0) (pa_cons pe_int pa_nil)))))))))

def B01 (xs : List Int) : Prop := ∀ x ∈ xs, 0 ≤ x ∧ x ≤ 1
def sp_l_bits (T : Txt K mg) : Sp := fun vs H Q _ => ∃ (p : Addr) (xs : List Int), vs = [.ref p] ∧ H p = some (.lst (xs.map V.int)) ∧ xs.length ≤ 500 ∧ Byts xs ∧
  ∀ (r : Addr) (bs : List Int) H', Same H H' → H' r = some (.lst (bs.map V.int)) → bs.length ≤ 8 * xs.length → Q (.ref r) H'
theorem len_l_bits (T : Txt K mg) (vs : List V) (H : Hp) (Q : VK) (E : XK) (h : sp_l_bits T vs H Q E) : vs.length = 1 := by
  obtain ⟨_, _, rfl, _⟩ := h
  rfl
def t_l_bits (T : Txt K mg) : TS := (tSeq (tAsg (tLst tNil) (gName 1))
    (tSeq (tFor (iSeqU K (tVar 0)) (gName 2) (tAsg (tOp (rAddU K) (tVar 1) (tLc (iSeqU K (tTup (tCons (tC (.int 128)) (tCons (tC (.int 64)) (tCons (tC (.int 32)) (tCons (tC (.int 16)) (tCons (tC (.int 8)) (tCons (tC (.int 4)) (tCons (tC (.int 2)) (tCons (tC (.int 1)) tNil)))))))))) (gName 3) tYes (tOp rModI (tOp rFdivI (tVar 2) (tVar 3)) (tC (.int 2))) [3])) (gName 1)))
    (tRet (tVar 1))))

theorem pure_l_bits (T : Txt K mg) (vs : List V) (H : Hp) (Q : VK) (E : XK) (h : sp_l_bits T vs H Q E) : t_l_bits T { nx := fun _ H' => Q .non H', rt := Q } (start ["_law_data_here", "_law_found", "_law_byte", "_law_worth"] vs) H := by
  obtain ⟨p, xs, rfl, hp, hl, hx, q⟩ := h
  unfold t_l_bits
  walk_at "rd"
  refine And.intro (Nat.zero_le _) ?_
  intro r0 nr0
  generalize hg : upd _ r0 _ = H1
  have s1 := same_of hg nr0
  have v1 := at_of hg
  clear hg
  have hp1 := s1 _ _ hp
  walk_at "rd"
  refine r_iseqL ?_
  walk_at "rd"
  refine ⟨p, rfl, ⟨_, ql hp1⟩, ?_⟩
  refine f_it (walk_list (K := K) (a := p) (xs := xs.map V.int)) (fun i σ G => ∃ (r : Addr) (bs : List Int), ∃ v2 v3, σ = [some (.ref p), some (.ref r), v2, v3] ∧ Same H G ∧ G r = some (.lst (bs.map V.int)) ∧ bs.length = 8 * i)
    ⟨r0, [], none, none, rfl, s1, v1, rfl⟩ (fun i σ G _ h => by
      obtain ⟨_, _, _, _, _, s, _⟩ := h
      exact ql (s _ _ hp)) ?_ ?_
  · rintro i x σ G G' hi ⟨r, bs, v2, v3, rfl, sG, hr, hbl⟩ ⟨rfl, hx'⟩
    obtain ⟨z, hz, rfl⟩ := at_int hx'
    have bz := hx z (List.mem_of_getElem? hz)
    have hi' : i < xs.length := by rw [List.length_map] at hi; exact hi
    walk_at "rd"
    refine r_iseqT ?_
    walk_at "rd"
    refine And.intro (by show 8 ≤ sizeLine; decide) ?_
    intro t nt
    generalize hgt : upd _ t _ = G1
    have st := same_of hgt nt
    have vt := at_of hgt
    clear hgt
    refine ⟨t, rfl, ⟨_, qt vt⟩, fun D nD => ?_⟩
    refine c_it (walk_tup (K := K) (a := t) (xs := [.int 128, .int 64, .int 32, .int 16, .int 8, .int 4, .int 2, .int 1])) (fun j G => ∃ acc : List Int, G D = some (.lst (acc.map V.int)) ∧ acc.length = j ∧ Same G1 G) ⟨[], upd_same, rfl, same_new nD⟩
      (fun j G _ h => by
        obtain ⟨_, _, _, s⟩ := h
        exact qt (s _ _ vt)) ?_ ?_
    · rintro j y G2 G2' hj ⟨acc, hD, el, sD⟩ ⟨rfl, hy⟩
      have hj8 : j < 8 := hj
      obtain ⟨wv, rfl, w1, w2⟩ : ∃ wv : Int, y = .int wv ∧ 1 ≤ wv ∧ wv ≤ 128 := by
        match j, hy with
        | 0, hx => exact ⟨128, (Option.some.inj hx).symm, by decide, by decide⟩
        | 1, hx => exact ⟨64, (Option.some.inj hx).symm, by decide, by decide⟩
        | 2, hx => exact ⟨32, (Option.some.inj hx).symm, by decide, by decide⟩
        | 3, hx => exact ⟨16, (Option.some.inj hx).symm, by decide, by decide⟩
        | 4, hx => exact ⟨8, (Option.some.inj hx).symm, by decide, by decide⟩
        | 5, hx => exact ⟨4, (Option.some.inj hx).symm, by decide, by decide⟩
        | 6, hx => exact ⟨2, (Option.some.inj hx).symm, by decide, by decide⟩
        | 7, hx => exact ⟨1, (Option.some.inj hx).symm, by decide, by decide⟩
        | j + 8, hx => cases hx
      walk_at "rd"
      refine ⟨rfl, ?_⟩
      walk_at "rd"
      refine ⟨_, hD, by rw [List.length_map, el]; exact Nat.lt_of_lt_of_le hj8 (smallS (by decide)), acc ++ [_], by rw [upd_same, List.map_append]; rfl, by simp [el], same_mut sD nD⟩
    · rintro G2 ⟨acc, hD, el, sD⟩
      have el8 : acc.length = 8 := el
      have hr2 : G2 r = some (.lst (bs.map V.int)) := sD _ _ (st _ _ hr)
      refine r_addUL hr2 hD (by rw [List.length_map, List.length_map]; exact smallS (by omega)) fun r2 nr2 => ?_
      rw [← List.map_append]
      walk_at "rd"
      exact ⟨r2, bs ++ acc, _, _, rfl, (sG.trans (st.trans sD)).trans (same_new nr2), upd_same, by rw [List.length_append, hbl, el8]; omega⟩
  · rintro σ G ⟨r, bs, v2, v3, rfl, sG, hr, hbl⟩
    rw [List.length_map] at hbl
    walk_at "rd"
    exact q r bs G sG hr (by omega)
theorem ok_l_bits (T : Txt K mg) : FnOk P w K mg base CX0 1 T.l_bits_a T.l_bits_d ["_law_data_here"] (sp_l_bits T) := by
  refine T.l_bits_f.ok sc_l_bits (fun vs H Q E h => len_l_bits T vs H Q E h) (fun cdv A outer s H vs Q E hr h => ⟨t_l_bits T, PSs.nox ?_, pure_l_bits T vs H Q E h⟩)
  have hu := hu64 hr
  exact (pss_cons (ps_set (i := 1) sc_l_bits.nd rfl (.inl rfl) (pe_lst pa_nil))
      (pss_cons (ps_for PassesOwn.never rfl (pi_seqU (pv 0)) (pg_name (i := 2) sc_l_bits.nd rfl (.inr rfl)) (pss_one (ps_set (i := 1) sc_l_bits.nd rfl (.inl rfl) (pe_op op_addU (pv 1) (pe_lc (own := [("_law_worth", 3)]) (g := (gName 3)) (tt := tYes) rfl sc_l_bits.nd (pi_seqU (pe_tup (pa_cons pe_int (pa_cons pe_int (pa_cons pe_int (pa_cons pe_int (pa_cons pe_int (pa_cons pe_int (pa_cons pe_int (pa_cons pe_int pa_nil)))))))))) (blkOk_by (own := [("_law_worth", 3)]) (N := ["_law_data_here", "_law_found", "_law_byte", "_law_worth"]) (sc := defScope s_l_bits) (by decide +kernel)) (fun _ _ _ _ _ => (pg_name (i := 3) sc_l_bits.nd rfl (.inl rfl))) (fun _ _ _ _ _ => pts_nil) (fun _ _ _ _ _ => (pe_op op_modN (pe_op op_fdivN (pv 2) (pv 3)) pe_int)))))))
      (pss_one (ps_ret (pv 1)))))

def sp_l_number (T : Txt K mg) : Sp := fun vs H Q _ => ∃ (p : Addr) (xs : List Int), vs = [.ref p] ∧ H p = some (.lst (xs.map V.int)) ∧ ∀ (v : Int), Q (.int v) H
theorem len_l_number (T : Txt K mg) (vs : List V) (H : Hp) (Q : VK) (E : XK) (h : sp_l_number T vs H Q E) : vs.length = 1 := by
  obtain ⟨_, _, rfl, _⟩ := h
  rfl
def t_l_number (T : Txt K mg) : TS := (tSeq (tAsg (tC (.int 0)) (gName 1))
    (tSeq (tFor (iSeqU K (tVar 0)) (gName 2) (tAsg (tOp (rAddU K) (tOp (rMulU K) (tC (.int 2)) (tVar 1)) (tVar 2)) (gName 1)))
    (tRet (tVar 1))))

theorem pure_l_number (T : Txt K mg) (vs : List V) (H : Hp) (Q : VK) (E : XK) (h : sp_l_number T vs H Q E) : t_l_number T { nx := fun _ H' => Q .non H', rt := Q } (start ["_law_bits_here", "_law_total", "_law_bit"] vs) H := by
  obtain ⟨p, xs, rfl, hp, q⟩ := h
  unfold t_l_number
  walk_at "rd"
  refine r_iseqL ?_
  walk_at "rd"
  refine ⟨p, rfl, ⟨_, ql hp⟩, ?_⟩
  refine f_it (walk_list (K := K) (a := p) (xs := xs.map V.int)) (fun i σ G => ∃ (v : Int), ∃ v2, σ = [some (.ref p), some (.int v), v2] ∧ G = H) ⟨0, none, rfl, rfl⟩ (fun i σ G _ h => by
    obtain ⟨_, _, _, rfl⟩ := h
    exact ql hp) ?_ ?_
  · rintro i x σ G G' hi ⟨v, v2, rfl, rfl⟩ ⟨rfl, hx'⟩
    obtain ⟨z, hz, rfl⟩ := at_int hx'
    walk_at "rd"
    exact ⟨_, _, rfl, rfl⟩
  · rintro σ G ⟨v, v2, rfl, rfl⟩
    walk_at "rd"
    exact q v
theorem ok_l_number (T : Txt K mg) : FnOk P w K mg base CX0 1 T.l_number_a T.l_number_d ["_law_bits_here"] (sp_l_number T) := by
  refine T.l_number_f.ok sc_l_number (fun vs H Q E h => len_l_number T vs H Q E h) (fun cdv A outer s H vs Q E hr h => ⟨t_l_number T, PSs.nox ?_, pure_l_number T vs H Q E h⟩)
  have hu := hu64 hr
  exact (pss_cons (ps_set (i := 1) sc_l_number.nd rfl (.inl rfl) pe_int)
      (pss_cons (ps_for PassesOwn.never rfl (pi_seqU (pv 0)) (pg_name (i := 2) sc_l_number.nd rfl (.inl rfl)) (pss_one (ps_set (i := 1) sc_l_number.nd rfl (.inl rfl) (pe_op op_addU (pe_op op_mulU pe_int (pv 1)) (pv 2)))))
      (pss_one (ps_ret (pv 1)))))

theorem rgc_up {L m : Nat} (hL : L ≤ 100000) (h1 : 1 ≤ m) (h2 : m ≤ 100000) : ∃ n : Nat, RgC 0 (L : Int) (m : Int) n ∧ n ≤ L := by
  have e := rangeSize_toNat 0 (L : Int) (m : Int)
  have l := rangeSize_toNat_le 0 (L : Int) (m : Int)
  refine ⟨(Builtin.Range.rangeSize 0 (L : Int) (m : Int)).toNat, ⟨by omega, by omega, ?_, e⟩, by omega⟩
  unfold Builtin.Range.small
  rw [e]
  simp only [Builtin.Range.rangeFitsLong, Bool.and_eq_true, Bool.or_eq_true, decide_eq_true_eq, beq_iff_eq]
  refine ⟨by omega, .inr ?_⟩
  rw [if_pos (show (m : Int) > 0 by omega)]
  simp only [Bool.and_eq_true, decide_eq_true_eq]
  omega
theorem r_rng3 {tr : TA} {σ : S} {H : Hp} {R : It → Hp → Prop} (h : tr σ H fun vs H1 => ∃ (i j c : Int) (n : Nat), vs = [.int i, .int j, .int c] ∧ RgC i j c n ∧ R (Itc i c n) H1) : iRng3 tr σ H R := h
def sp_l_digits (T : Txt K mg) : Sp := fun vs H Q _ => ∃ (p d : Addr) (z pd : Str) (w m : Nat) (xs : List Int), vs = [.ref p, .ref d] ∧ H p = some (.tup [.str z, .str pd, .int w]) ∧ z.length = 2 ^ m ∧ 1 ≤ m ∧ m ≤ 6 ∧ H d = some (.lst (xs.map V.int)) ∧ xs.length ≤ 500 ∧ Byts xs ∧
  ∀ (r : Addr) (ns : List Int) H', Same H H' → H' r = some (.lst (ns.map V.int)) → ns.length ≤ 10000 → Q (.ref r) H'
theorem len_l_digits (T : Txt K mg) (vs : List V) (H : Hp) (Q : VK) (E : XK) (h : sp_l_digits T vs H Q E) : vs.length = 2 := by
  obtain ⟨_, _, _, _, _, _, _, rfl, _⟩ := h
  rfl
theorem zeros (k : Nat) : (List.replicate k [V.int 0]).flatten = (List.replicate k (0 : Int)).map V.int := by
  induction k with
  | zero => rfl
  | succ k ih => rw [List.replicate_succ, List.flatten_cons, ih]; rfl
def t_l_digits (T : Txt K mg) : TS := (tSeq (tAsg (tTup (tCons (tCall (sp_l_bits T) [] E0 (tCons (tVar 1) tNil)) (tCons (tCall (sp_l_size T) [] E0 (tCons (tVar 0) tNil)) tNil))) (gTup K 2 (gCons (gName 2) (gCons (gName 3) gNil))))
    (tSeq (tAsg (tOp (rAddU K) (tVar 2) (tOp (rMulU K) (tLst (tCons (tC (.int 0)) tNil)) (tOp rModI (tOp rSubI (tC (.int 0)) (tCB (rLenU K) (tCons (tVar 2) tNil))) (tVar 3)))) (gName 2))
    (tRet (tLc (iRng3 (tCons (tC (.int 0)) (tCons (tCB (rLenU K) (tCons (tVar 2) tNil)) (tCons (tVar 3) tNil)))) (gName 4) tYes (tCall (sp_l_number T) [] E0 (tCons (tSl (rSlU K) (tVar 2) (tPart (tVar 4)) (tPart (tOp (rAddU K) (tVar 4) (tVar 3)))) tNil)) [4]))))

theorem pure_l_digits (T : Txt K mg) (vs : List V) (H : Hp) (Q : VK) (E : XK) (h : sp_l_digits T vs H Q E) : t_l_digits T { nx := fun _ H' => Q .non H', rt := Q } (start ["_law_code_here", "_law_data_here", "_law_bits_here", "_law_size_here", "_law_at"] vs) H := by
  obtain ⟨p, d, z, pd, w, m, xs, rfl, hp, hz, h1, h6, hd, hl, hx, q⟩ := h
  unfold t_l_digits
  walk_at "rd"
  refine ⟨d, xs, rfl, hd, hl, hx, fun r bs H1 s1 hr hbl => ?_⟩
  walk_at "rd"
  refine ⟨p, z, pd, w, m, rfl, s1 _ _ hp, hz, h1, h6, fun H2 s2 => ?_⟩
  have hr2 := s2 _ _ hr
  walk_at "rd"
  refine And.intro (by show 2 ≤ sizeLine; decide) ?_
  intro t nt
  generalize hgt : upd _ t _ = H3
  have s3 := same_of hgt nt
  have v3 := at_of hgt
  clear hgt
  have hr3 := s3 _ _ hr2
  walk_at "rd"
  refine And.intro (by show 1 ≤ sizeLine; decide) ?_
  intro l0 nl0
  generalize hg4 : upd _ l0 _ = H4
  have s4 := same_of hg4 nl0
  have v4 := at_of hg4
  clear hg4
  have hr4 := s4 _ _ hr3
  walk_at "rd"
  generalize hk : (0 - (((bs.map V.int).length : Nat) : Int)).fmod (m : Int) = k
  have hk0 : 0 ≤ k := by rw [← hk]; exact Int.fmod_nonneg_of_pos _ (by omega)
  have hk1 : k < m := by rw [← hk]; exact Int.fmod_lt_of_pos _ (by omega)
  refine r_mulUL v4 ⟨by omega, by omega⟩ (smallS (by simp only [List.length_cons, List.length_nil]; omega)) fun l1 nl1 => ?_
  generalize hg5 : upd _ l1 _ = H5
  have s5 := same_of hg5 nl1
  have v5 := at_of hg5
  clear hg5
  rw [zeros] at v5
  have hr5 := s5 _ _ hr4
  refine r_addUL hr5 v5 (by rw [List.length_map, List.length_map, List.length_replicate]; exact smallS (by omega)) fun l2 nl2 => ?_
  rw [← List.map_append]
  generalize hg6 : upd _ l2 _ = H6
  have s6 := same_of hg6 nl2
  have v6 := at_of hg6
  clear hg6
  have hLl : (bs ++ List.replicate k.toNat (0 : Int)).length ≤ 5000 := by rw [List.length_append, List.length_replicate]; omega
  generalize hB : bs ++ List.replicate k.toNat (0 : Int) = B at v6 hLl
  have S6 : Same H H6 := s1.trans (s2.trans (s3.trans (s4.trans (s5.trans s6))))
  walk_at "rd"
  obtain ⟨n, hn, hnl⟩ := rgc_up (L := (B.map V.int).length) (m := m) (by rw [List.length_map]; omega) h1 (by omega)
  refine r_rng3 ?_
  walk_at "rd"
  refine ⟨0, _, _, n, rfl, hn, fun D nD => ?_⟩
  rw [List.length_map] at hnl
  refine c_it walk_rangeC (fun i G => ∃ acc : List Int, G D = some (.lst (acc.map V.int)) ∧ acc.length = i ∧ Same H6 G) ⟨[], upd_same, rfl, same_new nD⟩ (fun _ _ _ _ => trivial) ?_ ?_
  · rintro i x G G' hi ⟨acc, hD, el, sG⟩ ⟨rfl, rfl⟩
    have v6' := sG _ _ v6
    walk_at "rd"
    refine ⟨rfl, ?_⟩
    walk_at "rd"
    refine r_slUL (ql v6') ?_
    intro l3 nl3
    obtain ⟨a, k2, ec⟩ := cutV_any (l := B.map V.int) (some (0 + (i : Int) * (m : Int))) (some (0 + (i : Int) * (m : Int) + (m : Int)))
    rw [ec, ← List.map_drop, ← List.map_take]
    generalize hg7 : upd _ l3 _ = H7
    have s7 := same_of hg7 nl3
    have v7 := at_of hg7
    clear hg7
    walk_at "rd"
    refine ⟨l3, _, rfl, v7, fun v => ?_⟩
    refine ⟨_, s7 _ _ hD, by rw [List.length_map, el]; exact Nat.lt_of_lt_of_le hi (smallS (by omega)), acc ++ [v], by rw [upd_same, List.map_append]; rfl, by simp [el], same_mut (sG.trans s7) nD⟩
  · rintro G ⟨acc, hD, el, sG⟩
    exact q D acc G (S6.trans sG) hD (by omega)
theorem ok_l_digits (T : Txt K mg) : FnOk P w K mg base CX0 2 T.l_digits_a T.l_digits_d ["_law_code_here", "_law_data_here"] (sp_l_digits T) := by
  refine T.l_digits_f.ok sc_l_digits (fun vs H Q E h => len_l_digits T vs H Q E h) (fun cdv A outer s H vs Q E hr h => ⟨t_l_digits T, PSs.nox ?_, pure_l_digits T vs H Q E h⟩)
  have hu := hu64 hr
  exact (pss_cons (ps_asg (pe_tup (pa_cons (pe_call (ok_l_bits T) (hr.mono (by decide)) (by rfl) T.l_bits_g T.l_bits_f.kp T.l_bits_b .nil pass0 (pa_cons (pv 1) pa_nil)) (pa_cons (pe_call (ok_l_size T) (hr.mono (by decide)) (by rfl) T.l_size_g T.l_size_f.kp T.l_size_b .nil pass0 (pa_cons (pv 0) pa_nil)) pa_nil))) (pg_tup (by rfl) (pgs_cons (pg_name (i := 2) sc_l_digits.nd rfl (.inr rfl)) (pgs_cons (pg_name (i := 3) sc_l_digits.nd rfl (.inr rfl)) pgs_nil))))
      (pss_cons (ps_set (i := 2) sc_l_digits.nd rfl (.inr rfl) (pe_op op_addU (pv 2) (pe_op op_mulU (pe_lst (pa_cons pe_int pa_nil)) (pe_op op_modN (pe_op op_sub pe_int (pe_callB c_lenU (by rfl) T.n_len (by decide +kernel) (pa_cons (pv 2) pa_nil))) (pv 3)))))
      (pss_one (ps_ret (pe_lc (own := [("_law_at", 4)]) (g := (gName 4)) (tt := tYes) rfl sc_l_digits.nd (pi_range3 (by rfl) T.n_range (pa_cons pe_int (pa_cons (pe_callB c_lenU (by rfl) T.n_len (by decide +kernel) (pa_cons (pv 2) pa_nil)) (pa_cons (pv 3) pa_nil)))) (blkOk_by (own := [("_law_at", 4)]) (N := ["_law_code_here", "_law_data_here", "_law_bits_here", "_law_size_here", "_law_at"]) (sc := defScope s_l_digits) (by decide +kernel)) (fun _ _ _ _ _ => (pg_name (i := 4) sc_l_digits.nd rfl (.inl rfl))) (fun _ _ _ _ _ => pts_nil) (fun _ _ _ _ _ => (pe_call (ok_l_number T) (hr.mono (by decide)) (by rfl) T.l_number_g T.l_number_f.kp T.l_number_b .nil pass0 (pa_cons (pe_slice sl_U (pv 2) (po_some (pv 4)) (po_some (pe_op op_addU (pv 4) (pv 3)))) pa_nil))))))))


end
section
variable {P : Program} {w : World} {K : PySem.W.Frag} {mg : Str → Option Value} {base : Heap}
local macro_rules | `(tactic| walk_at "hc") => `(tactic| first
  | assumption
  | ((refine CodeAt.same (H := ?xH) ?xb ?xa); (case xa => assumption); (case xb => walk_at "hc")))
local macro_rules | `(tactic| walk_at "rd0") => `(tactic| first
  | ((with_reducible refine r_get (a := ?xa) (c := ?xc) ?x1 ?x2 ?_); (case x1 => rfl); (case x2 => walk_at "hc"))
  | ((with_reducible refine r_methC (a := ?xa) (c := ?xc) ?x1 ?x2 ?x3 ?_); (case x1 => rfl); (case x2 => walk_at "hc"); (case x3 => (intro _ _ _; rfl)))
  | (with_reducible refine r_fmtB ?_)
  | (with_reducible refine r_dget ?_)
  | (with_reducible refine r_m0 ?_)
  | (with_reducible refine r_makeK ?_)
  | (with_reducible refine r_cval ?_)
  | (with_reducible refine r_sfld ?_)
  | (with_reducible refine r_isiI ?_)
  | (with_reducible refine r_isiIB ?_)
  | (with_reducible refine r_isiS ?_)
  | (with_reducible refine r_inID ?_))

/-! ### one room -/
theorem cutV_but {l : List V} {v : V} : cutV (l ++ [v]) none (some (-1)) = l := by
  show List.take (((-1 : Int) + (((l ++ [v]).length : Nat) : Int)).toNat - 0) (List.drop 0 (l ++ [v])) = l
  rw [List.length_append, List.length_singleton]
  have e : ((-1 : Int) + ((l.length + 1 : Nat) : Int)).toNat - 0 = l.length := by omega
  rw [e, List.drop_zero]
  exact List.take_left' rfl
theorem r_negI {i : Int} {H : Hp} {Q : VK} (h : Q (.int (-i)) H) : rNegI (.int i) H Q := ⟨i, rfl, h⟩
theorem text_len {c : CodeD} (ok : c.Ok) (xs : List Int) : (textC c xs).length ≤ 27 * xs.length + 20 := by
  have wok := Wok.run ok xs
  have sl := sum_le _ wok.ol
  rw [out_len] at sl
  have h1 := plcs_len c (endS c (wrun c xs).b (wrun c xs).sn) (wrun c xs).col
  have h2 : (endS c (wrun c xs).b (wrun c xs).sn).length ≤ 10 := by
    unfold endS padL miss
    have g8 : grp c.sb ≤ 8 := by
      have h1 := ok.b1
      have h6 := ok.b6
      have e : c.sb = 1 ∨ c.sb = 2 ∨ c.sb = 3 ∨ c.sb = 4 ∨ c.sb = 5 ∨ c.sb = 6 := by omega
      rcases e with e | e | e | e | e | e <;> rw [e] <;> decide
    split
    · exact Nat.zero_le _
    · rw [List.length_cons, List.length_replicate]
      split <;> omega
  have h3 : (wrun c xs).out.flatten.length = ((((wrun c xs).out).map tx).map (·.length)).sum := by
    rw [List.length_flatten, List.map_map]
    congr 1
    try exact List.map_congr_left fun l _ => (tx_len l).symm
  unfold textC
  rw [List.length_append]
  omega
theorem sum_flat (l : List (List Nat)) : ((l.map tx).map (·.length)).sum = l.flatten.length := by
  rw [List.length_flatten, List.map_map]
  congr 1
  try exact List.map_congr_left fun l _ => tx_len l
def sp_l_right (T : Txt K mg) : Sp := fun vs H Q _ => ∃ (p d : Addr) (z pd : Str) (w0 w : Nat) (xs : List Int), vs = [.ref p, .int w, .ref d] ∧ H p = some (.tup [.str z, .str pd, .int w0]) ∧ Drawn z pd ∧ 1 ≤ w ∧ w ≤ 76 ∧ H d = some (.lst (xs.map V.int)) ∧ xs.length ≤ 500 ∧ Byts xs ∧
  ∀ H', Same H H' → Q (.bl true) H'
theorem len_l_right (T : Txt K mg) (vs : List V) (H : Hp) (Q : VK) (E : XK) (h : sp_l_right T vs H Q E) : vs.length = 3 := by
  obtain ⟨_, _, _, _, _, _, _, rfl, _⟩ := h
  rfl
def t_l_right (T : Txt K mg) : TS := (tSeq (tPar 3 4 (tCons (tMakeK T.C_Code 1 (["pad", "width"] : List Str).length (sp_Code___init__ T) (fun vs zs => vs ++ zs) E0 (tCons (tOp (rIx K) (tVar 0) (tC (.int 0))) tNil) (tCons (tOp (rIx K) (tVar 0) (tC (.int 1))) (tCons (tVar 1) tNil))) (tCons (tMakeK T.C_Code 1 (["pad"] : List Str).length (sp_Code___init__ T) (fun vs zs => vs ++ (zs ++ [.int 0])) E0 (tCons (tOp (rIx K) (tVar 0) (tC (.int 0))) tNil) (tCons (tOp (rIx K) (tVar 0) (tC (.int 1))) tNil)) tNil)))
    (tSeq (tPar 5 6 (tCons (tCall (sp_text_of T) [] E0 (tCons (tVar 3) (tCons (tVar 2) tNil))) (tCons (tCall (sp_text_of T) [] E0 (tCons (tVar 4) (tCons (tVar 2) tNil))) tNil)))
    (tSeq (tAsg (tBM K "str" rSplit (tVar 5) (tCons (tC (.str (Str.ofString "\n"))) tNil)) (gName 7))
    (tSeq (tIfS (tOr (tTest (tOp (rNeU K) (tJoinU K (tC (.str (Str.ofString ""))) (tVar 7)) (tVar 6))) (tTest (tOp (rInU K) (tC (.str (Str.ofString "\n"))) (tVar 6)))) (tRet (tC (.bl false))) tNext)
    (tSeq (tIfS (tTest (tOp (rEqU K) (tVar 6) (tC (.str (Str.ofString ""))))) (tRet (tOp (rEqU K) (tVar 5) (tC (.str (Str.ofString ""))))) tNext)
    (tSeq (tIfS (tOr (tNot (tB (tCB (rAll K) (tCons (tLc (iSeqU K (tSl (rSlU K) (tVar 7) tNoPart (tPart (tUn rNegI (tC (.int 1)))))) (gName 8) tYes (tOp (rEqU K) (tCB (rLenU K) (tCons (tVar 8) tNil)) (tVar 1)) [8]) tNil)))) (tNot (tTest (tChain rLeI rLeI (tC (.int 1)) (tCB (rLenU K) (tCons (tOp (rIx K) (tVar 7) (tUn rNegI (tC (.int 1)))) tNil)) (tVar 1))))) (tRet (tC (.bl false))) tNext)
    (tRet (tOp (rEqU K) (tCB (rLenU K) (tCons (tVar 7) tNil)) (tOp rFdivI (tOp rSubI (tOp (rAddU K) (tCB (rLenU K) (tCons (tVar 6) tNil)) (tVar 1)) (tC (.int 1))) (tVar 1))))))))))

theorem pure_l_right (T : Txt K mg) (vs : List V) (H : Hp) (Q : VK) (E : XK) (h : sp_l_right T vs H Q E) : t_l_right T { nx := fun _ H' => Q .non H', rt := Q } (start ["_law_code_here", "_law_room", "_law_some", "_law_wide", "_law_plain", "_law_text", "_law_whole", "_law_rows", "_law_row"] vs) H := by
  obtain ⟨p, d, z, pd, w0, w, xs, rfl, hp, hdr, hw1, hw2, hd, hl, hx, q⟩ := h
  obtain ⟨⟨m, hm1, hm6, hzl⟩, hsz, hsp, hnd, hpl, hdj⟩ := hdr
  have new : ∀ w : Nat, w ≤ 76 → (⟨z, pd, w, m⟩ : CodeD).New := fun w hw => ⟨⟨hm1, hm6, hzl, hsz, hsp, hpl, hw⟩, hnd, hdj⟩
  unfold t_l_right
  walk_at "rd"
  refine ⟨rfl, rfl, fun x dx nx ndx nex => ?_⟩
  refine ⟨x, dx, ⟨z, pd, w, m⟩, rfl, upd_same, new w hw2, fun H1 b1 c1 => ⟨rfl, ?_⟩⟩
  have s1 : Same H H1 := same_mutB nx (same_mut (same_new ndx) nx) b1
  have hp1 := s1 _ _ hp
  walk_at "rd"
  refine ⟨rfl, rfl, fun x2 dx2 nx2 ndx2 nex2 => ?_⟩
  refine ⟨x2, dx2, ⟨z, pd, 0, m⟩, rfl, upd_same, new 0 (by omega), fun H2 b2 c2 => ⟨rfl, ?_⟩⟩
  have s2 : Same H1 H2 := same_mutB nx2 (same_mut (same_new ndx2) nx2) b2
  walk_at "rd"
  refine ⟨x, _, d, xs, rfl, c1.same s2, s2 _ _ (s1 _ _ hd), by omega, hx, fun H3 s3 => ?_⟩
  walk_at "rd"
  refine ⟨x2, _, d, xs, rfl, c2.same s3, s3 _ _ (s2 _ _ (s1 _ _ hd)), by omega, hx, fun H4 s4 => ?_⟩
  have S4 : Same H H4 := s1.trans (s2.trans (s3.trans s4))
  have okw := (new w hw2).1
  have ok0 := (new 0 (by omega)).1
  have e0 : textC ⟨z, pd, 0, m⟩ xs = plain ⟨z, pd, w, m⟩ xs := by
    rw [text_plain ok0, plcs_zero rfl]
    exact plain_wd ⟨z, pd, w, m⟩ 0 xs
  obtain ⟨rws, last, hsp2, hrl, hll, hl1, hfl, ht⟩ := rows_split okw (show 0 < w from hw1) xs
  have lenT := text_len okw xs
  have lenP := text_len ok0 xs
  rw [e0] at lenP ⊢
  have sgP := plain_sg okw xs
  have eT : plain ⟨z, pd, w, m⟩ xs = [] → textC ⟨z, pd, w, m⟩ xs = [] := fun h => by rw [text_plain okw, h]; rfl
  generalize textC ⟨z, pd, w, m⟩ xs = X at hsp2 lenT ht eT ⊢
  generalize plain ⟨z, pd, w, m⟩ xs = P at lenP sgP hl1 hfl eT ⊢
  replace hll : last.length ≤ w := hll
  replace hrl : ∀ r ∈ rws, r.length = w := hrl
  walk_at "rd"
  refine ⟨tyS, ?_⟩
  walk_at "rd"
  refine ⟨_, _, rfl, rfl, rfl, smallS (by rw [tx_len]; omega), fun l nl => ?_⟩
  rw [nl_tx, hsp2]
  generalize hg : upd _ l _ = H5
  have s5 := same_of hg nl
  have v5 := at_of hg
  clear hg
  walk_at "rd"
  refine r_join ?_ rfl
  walk_at "rd"
  have eflat : (rws ++ [last]).flatten = P := by rw [List.flatten_append, List.flatten_cons, List.flatten_nil, List.append_nil, hfl]
  refine ⟨_, l, (rws ++ [last]).map tx, rfl, rfl, .inl (ql v5), ?_, ?_⟩
  · have e0 : (Str.ofString "").length = 0 := rfl
    rw [e0, Nat.mul_zero, Nat.add_zero, sum_flat, eflat]
    omega
  rw [txt_join_tx, eflat]
  walk_at "rd"
  refine r_iteND (fun h => absurd rfl h) (fun _ => ?_)
  walk_at "rd"
  refine r_inS ⟨10, tx P, rfl, rfl, ?_⟩
  rw [tx_list, decide_eq_false (fun h => by have := sgP 10 h; unfold Sg at this; omega)]
  walk_at "rd"
  have pe : (tx P = Str.ofString "") ↔ P = [] := by
    rw [e_tx]
    exact ⟨tx_inj, fun z => by rw [z]⟩
  refine r_iteD (fun h => ?_) (fun h => ?_)
  · rw [eT (pe.mp h)]
    walk_at "rd"
    rw [decide_eq_true (show tx [] = Str.ofString "" from rfl)]
    exact q H5 (S4.trans s5)
  have hne : P ≠ [] := fun z => h (pe.mpr z)
  have hl1' := hl1 hne
  have v5' : H5 l = some (.lst ((rws.map fun r => V.str (tx r)) ++ [V.str (tx last)])) := by
    rw [v5, List.map_map, List.map_append]
    rfl
  walk_at "rd"
  refine r_iseqL ?_
  walk_at "rd"
  refine r_negI ?_
  walk_at "rd"
  refine r_slUL (ql v5') ?_
  intro l2 nl2
  rw [cutV_but]
  generalize hg6 : upd _ l2 _ = H6
  have s6 := same_of hg6 nl2
  have v6 := at_of hg6
  clear hg6
  refine ⟨l2, rfl, ⟨_, ql v6⟩, fun D nD => ?_⟩
  refine c_it (walk_list (K := K) (a := l2) (xs := rws.map fun r => V.str (tx r))) (fun i G => G D = some (.lst ((List.replicate i true).map V.bl)) ∧ Same H6 G) ⟨upd_same, same_new nD⟩ (fun i G _ h => ql (h.2 _ _ v6)) ?_ ?_
  · rintro i y G G' hi ⟨hD, sG⟩ ⟨rfl, hy⟩
    rw [List.getElem?_map] at hy
    obtain ⟨r, hr, rfl⟩ := Option.map_eq_some_iff.mp hy
    have rm := List.mem_of_getElem? hr
    have rl := hrl r rm
    walk_at "rd"
    refine ⟨rfl, ?_⟩
    walk_at "rd"
    refine r_lenUS (smallS (by rw [tx_len]; omega)) ?_
    walk_at "rd"
    rw [tx_len, rl, decide_eq_true rfl]
    have hi2 : i < rws.length := by rw [List.length_map] at hi; exact hi
    have lr : rws.length ≤ 27 * xs.length + 20 := by
      have := KR.flat_len hrl
      have h2 := congrArg List.length hfl
      rw [List.length_append, this] at h2
      have := Nat.le_mul_of_pos_left rws.length (show 0 < w from hw1)
      omega
    refine ⟨_, hD, ?_, ?_, same_mut sG nD⟩
    · rw [List.length_map, List.length_replicate]
      exact Nat.lt_of_lt_of_le hi2 (smallS (by omega))
    · rw [upd_same, List.replicate_succ', List.map_append]
      rfl
  rintro G ⟨hD, sG⟩
  walk_at "rd"
  refine r_all (ql hD) ?_
  rw [show ∀ n : Nat, (List.replicate n true).all id = true from fun n => by simp]
  have v5G := sG _ _ (s6 _ _ v5')
  walk_at "rd"
  refine r_negI ?_
  refine r_ixL (ql v5G) (atI_last _ _) ?_
  walk_at "rd"
  refine r_lenUS (smallS (by rw [tx_len]; omega)) ?_
  rw [tx_len]
  walk_at "rd"
  refine r_iteD (fun _ => ?_) (fun h => absurd (show (1 : Int) ≤ (last.length : Nat) by omega) h)
  walk_at "rd"
  rw [decide_eq_true (show ((last.length : Nat) : Int) ≤ (w : Nat) by omega)]
  walk_at "rd"
  refine r_lenUS (smallS (by rw [tx_len]; omega)) ?_
  rw [tx_len]
  walk_at "rd"
  have num := KR.rows_num (n := P.length) (w := w) (r := rws.length) (l := last.length) (by omega) (by
    rw [← hfl, List.length_append, KR.flat_len hrl]) hl1' hll
  have ei : ((P.length : Nat) : Int) + (w : Nat) - 1 = ((P.length + w - 1 : Nat) : Int) := by omega
  have er : (((rws.map fun r => V.str (tx r)) ++ [V.str (tx last)]).length : Int) = ((rws.length + 1 : Nat) : Int) := by
    rw [List.length_append, List.length_map]
    rfl
  rw [ei, er, num, Int.fdiv_eq_ediv_of_nonneg _ (Int.natCast_nonneg _)]
  rw [decide_eq_true (show (((P.length + w - 1) / w : Nat) : Int) = ((P.length + w - 1 : Nat) : Int) / (w : Nat) from Int.natCast_ediv _ _)]
  exact q G (S4.trans (s5.trans (s6.trans sG)))
theorem ok_l_right (T : Txt K mg) : FnOk P w K mg base CX0 9 T.l_right_a T.l_right_d ["_law_code_here", "_law_room", "_law_some"] (sp_l_right T) := by
  refine T.l_right_f.ok sc_l_right (fun vs H Q E h => len_l_right T vs H Q E h) (fun cdv A outer s H vs Q E hr h => ⟨t_l_right T, PSs.nox ?_, pure_l_right T vs H Q E h⟩)
  have hu := hu64 hr
  exact (pss_cons (ps_par (i := 3) (j := 4) (by rfl) sc_l_right.nd rfl rfl (by decide) rfl rfl (pa_cons (pe_makeK T.C_Code_m (ok_Code___init__ T) (hr.mono (by decide)) (by rfl) T.C_Code_g T.Code___init___k1_pad_width.choose_spec pass0 (pa_cons (pe_ix ix_seq (pv 0) pe_int (fun _ _ => rfl)) pa_nil) (pk_cons (pe_ix ix_seq (pv 0) pe_int (fun _ _ => rfl)) (pk_cons (pv 1) pk_nil))) (pa_cons (pe_makeK T.C_Code_m (ok_Code___init__ T) (hr.mono (by decide)) (by rfl) T.C_Code_g T.Code___init___k1_pad.choose_spec pass0 (pa_cons (pe_ix ix_seq (pv 0) pe_int (fun _ _ => rfl)) pa_nil) (pk_cons (pe_ix ix_seq (pv 0) pe_int (fun _ _ => rfl)) pk_nil)) pa_nil)) (by rfl))
      (pss_cons (ps_par (i := 5) (j := 6) (by rfl) sc_l_right.nd rfl rfl (by decide) rfl rfl (pa_cons (pe_call (ok_text_of T) (hr.mono (by decide)) (by rfl) T.text_of_g T.text_of_f.kp T.text_of_b .nil pass0 (pa_cons (pv 3) (pa_cons (pv 2) pa_nil))) (pa_cons (pe_call (ok_text_of T) (hr.mono (by decide)) (by rfl) T.text_of_g T.text_of_f.kp T.text_of_b .nil pass0 (pa_cons (pv 4) (pa_cons (pv 2) pa_nil))) pa_nil)) (by rfl))
      (pss_cons (ps_set (i := 7) sc_l_right.nd rfl (.inl rfl) (pe_bm PySem.F.plainAttrs_str PySem.F.slot_str_split PySem.F.type_str_split mt_split (pv 5) (pa_cons pe_str pa_nil)))
      (pss_cons (ps_if (PW.pt (pw_or (pt_cmpR (op_neU hu) (pe_join pe_str (pv 7)) (pv 6) (nomark _)) (pw_or1 (pt_cmpR op_inU pe_str (pv 6) (by rfl))))) (pss_one (ps_ret pe_bl)) pss_nil)
      (pss_cons (ps_if (pt_cmpR (op_eqU hu) (pv 6) pe_str (nomark _)) (pss_one (ps_ret (pe_cmpR (op_eqU hu) (pv 5) pe_str (nomark _)))) pss_nil)
      (pss_cons (ps_if (PW.pt (pw_or (pt_not (pt_val (pe_callB (cr_all rfl) (by rfl) T.n_all (by decide +kernel) (pa_cons (pe_lc (own := [("_law_row", 8)]) (g := (gName 8)) (tt := tYes) rfl sc_l_right.nd (pi_seqU (pe_slice sl_U (pv 7) po_none (po_some (pe_un un_neg pe_int)))) (blkOk_by (own := [("_law_row", 8)]) (N := ["_law_code_here", "_law_room", "_law_some", "_law_wide", "_law_plain", "_law_text", "_law_whole", "_law_rows", "_law_row"]) (sc := defScope s_l_right) (by decide +kernel)) (fun _ _ _ _ _ => (pg_name (i := 8) sc_l_right.nd rfl (.inl rfl))) (fun _ _ _ _ _ => pts_nil) (fun _ _ _ _ _ => (pe_cmpR (op_eqU hu) (pe_callB c_lenU (by rfl) T.n_len (by decide +kernel) (pa_cons (pv 8) pa_nil)) (pv 1) (nomark _)))) pa_nil)))) (pw_or1 (pt_not (pt_chain op_le op_le pe_int (pe_callB c_lenU (by rfl) T.n_len (by decide +kernel) (pa_cons (pe_ix ix_seq (pv 7) (pe_un un_neg pe_int) (fun _ _ => rfl)) pa_nil)) (pv 1)))))) (pss_one (ps_ret pe_bl)) pss_nil)
      (pss_one (ps_ret (pe_cmpR (op_eqU hu) (pe_callB c_lenU (by rfl) T.n_len (by decide +kernel) (pa_cons (pv 7) pa_nil)) (pe_op op_fdivN (pe_op op_sub (pe_op op_addU (pe_callB c_lenU (by rfl) T.n_len (by decide +kernel) (pa_cons (pv 6) pa_nil)) (pv 1)) pe_int) (pv 1)) (nomark _))))))))))


end
section
variable {P : Program} {w : World} {K : PySem.W.Frag} {mg : Str → Option Value} {base : Heap}
local macro_rules | `(tactic| walk_at "hc") => `(tactic| first
  | assumption
  | ((refine CodeAt.same (H := ?xH) ?xb ?xa); (case xa => assumption); (case xb => walk_at "hc")))
local macro_rules | `(tactic| walk_at "rd0") => `(tactic| first
  | ((with_reducible refine r_get (a := ?xa) (c := ?xc) ?x1 ?x2 ?_); (case x1 => rfl); (case x2 => walk_at "hc"))
  | ((with_reducible refine r_methC (a := ?xa) (c := ?xc) ?x1 ?x2 ?x3 ?_); (case x1 => rfl); (case x2 => walk_at "hc"); (case x3 => (intro _ _ _; rfl)))
  | (with_reducible refine r_fmtB ?_)
  | (with_reducible refine r_dget ?_)
  | (with_reducible refine r_m0 ?_)
  | (with_reducible refine r_makeK ?_)
  | (with_reducible refine r_cval ?_)
  | (with_reducible refine r_sfld ?_)
  | (with_reducible refine r_isiI ?_)
  | (with_reducible refine r_isiIB ?_)
  | (with_reducible refine r_isiS ?_)
  | (with_reducible refine r_inID ?_))

def sp_law (T : Txt K mg) : Sp := fun vs H Q _ => ∃ (a : Addr) (ns : List Int), vs = [.ref a] ∧ SqL K H a (ns.map V.int) ∧ ns.length ≤ 63 ∧ ∀ H', Q (.bl true) H'
theorem len_law (T : Txt K mg) (vs : List V) (H : Hp) (Q : VK) (E : XK) (h : sp_law T vs H Q E) : vs.length = 1 := by
  obtain ⟨_, _, rfl, _⟩ := h
  rfl
/-- a room that the law asks for -/
theorem room_ok (i : Int) : ∃ w : Nat, (if (if i < 76 then i else 76) > 1 then (if i < 76 then i else 76) else 1) = (w : Int) ∧ 1 ≤ w ∧ w ≤ 76 :=
  ⟨(if (if i < 76 then i else 76) > 1 then (if i < 76 then i else 76) else 1).toNat, by split <;> split <;> omega, by split <;> split <;> omega, by split <;> split <;> omega⟩
def t_law (T : Txt K mg) : TS := (tSeq (tFor (iRng1 (tCons (tCB rMax2 (tCons (tC (.int 2)) (tCons (tCB rMin2 (tCons (tC (.int 6)) (tCons (tCB (rLenU K) (tCons (tVar 0) tNil)) tNil))) tNil))) tNil)) (gName 1) (tSeq (tAsg (tCall (sp_l_bag T) [] E0 (tCons (tVar 0) (tCons (tVar 1) tNil))) (gName 2))
    (tFor (iRng1 (tCons (tC (.int 8)) tNil)) (gName 3) (tSeq (tAsg (tTup (tCons (tCall (sp_l_code T) [] E0 (tCons (tVar 2) tNil)) (tCons (tCall (sp_l_data T) [] E0 (tCons (tVar 2) (tCons (tC (.int 40)) tNil))) tNil))) (gTup K 2 (gCons (gName 4) (gCons (gName 5) gNil))))
    (tSeq (tAsg (tCB (rLenU K) (tCons (tCall (sp_l_digits T) [] E0 (tCons (tVar 4) (tCons (tVar 5) tNil))) tNil)) (gName 6))
    (tSeq (tAsg (tLst (tCons (tOp (rAddU K) (tC (.int 1)) (tCall (sp_l_take T) [] E0 (tCons (tVar 2) (tCons (tC (.int 76)) tNil)))) (tCons (tC (.int 1)) (tCons (tC (.int 76)) (tCons (tCB rMax2 (tCons (tC (.int 1)) (tCons (tCB rMin2 (tCons (tC (.int 76)) (tCons (tVar 6) tNil))) tNil))) (tCons (tCB rMax2 (tCons (tC (.int 1)) (tCons (tCB rMin2 (tCons (tC (.int 76)) (tCons (tOp rSubI (tVar 6) (tC (.int 1))) tNil))) tNil))) tNil)))))) (gName 7))
    (tIfS (tNot (tB (tCB (rAll K) (tCons (tLc (iSeqU K (tVar 7)) (gName 8) tYes (tCall (sp_l_right T) [] E0 (tCons (tVar 4) (tCons (tVar 8) (tCons (tVar 5) tNil)))) [8]) tNil)))) (tRet (tC (.bl false))) tNext)))))))
    (tRet (tC (.bl true))))

theorem pure_law (T : Txt K mg) (vs : List V) (H : Hp) (Q : VK) (E : XK) (h : sp_law T vs H Q E) : t_law T { nx := fun _ H' => Q .non H', rt := Q } (start ["_law_script", "_law_at", "_law_bag_here", "_law_turn", "_law_code_here", "_law_some", "_law_many", "_law_rooms", "_law_room"] vs) H := by
  obtain ⟨a, ns, rfl, hS, hn, q⟩ := h
  unfold t_law
  walk_at "rd"
  generalize hc : (if (if ((List.map V.int ns).length : Int) < 6 then ((List.map V.int ns).length : Int) else 6) > 2 then (if ((List.map V.int ns).length : Int) < 6 then ((List.map V.int ns).length : Int) else 6) else 2) = cnt
  obtain ⟨cn, rfl, hcn⟩ : ∃ m : Nat, cnt = m ∧ m ≤ 6 := by
    refine ⟨cnt.toNat, ?_, ?_⟩
    · rw [← hc]; split <;> split <;> omega
    · rw [← hc]; split <;> split <;> omega
  refine r_one ⟨by omega, by omega⟩ ?_
  refine f_it (walk_range (lo := 0) (n := cn)) (fun i σ G => ∃ v1 v2 v3 v4 v5 v6 v7 v8, σ = [some (.ref a), v1, v2, v3, v4, v5, v6, v7, v8] ∧ Same H G)
    ⟨_, _, _, _, _, _, _, _, rfl, Same.refl H⟩ (fun _ _ _ _ _ => trivial) ?_ ?_
  · rintro i x σ G G' hi ⟨v1, v2, v3, v4, v5, v6, v7, v8, rfl, s⟩ ⟨rfl, rfl⟩
    walk_at "rd"
    refine ⟨a, ns, i, by simp, s.seq hS, hn, by omega, fun b H0 s0 nb hb0 => ?_⟩
    walk_at "rd"
    refine r_one ⟨by decide, by decide⟩ ?_
    refine f_it (walk_range (lo := 0) (n := 8)) (fun j σ G => ∃ v3 v4 v5 v6 v7 v8, σ = [some (.ref a), some (.int (0 + (i : Int))), some (.ref b), v3, v4, v5, v6, v7, v8] ∧ Same G' G ∧ BagAt G b (1000000 - 2000 * j))
      ⟨_, _, _, _, _, _, rfl, s0, hb0⟩ (fun _ _ _ _ _ => trivial) ?_ ?_
    · clear hb0 s0
      rintro j x σ G2 G2' hj ⟨w3, w4, w5, w6, w7, w8, rfl, s2, hb⟩ ⟨rfl, rfl⟩
      have hj8 : j < 8 := hj
      walk_at "rd"
      refine ⟨b, 1000000 - 2000 * j - 10, rfl, hb.mono (by omega), fun p z d w0 H3 sb3 hb3 np hp hdr => ?_⟩
      walk_at "rd"
      refine ⟨b, 40, 1000000 - 2000 * j - 1010, rfl, hb3.mono (by omega), by decide, fun pd xs H4 hx hxl npd hpd sb4 hb4 => ?_⟩
      have nep : p ≠ b := hb.ne np
      have nepd : pd ≠ b := hb3.ne npd
      have hp4 := sb4 _ _ nep hp
      walk_at "rd"
      refine And.intro (by show 2 ≤ sizeLine; decide) ?_
      intro t nt
      generalize hgt : upd _ t _ = H5
      have s5 := same_of hgt nt
      have v5 := at_of hgt
      clear hgt
      have S5 : Same G' H5 := same_mutB nb s2 ((sb3.trans sb4).trans (toB s5))
      walk_at "rd"
      obtain ⟨⟨m, hm1, hm6, hzl⟩, hdr2⟩ := And.intro hdr.ex hdr
      refine ⟨p, pd, z, d, w0, m, xs, rfl, s5 _ _ hp4, hzl, hm1, hm6, s5 _ _ hpd, by omega, hx, fun r is H6 s6 hr hl => ?_⟩
      walk_at "rd"
      refine ⟨b, 76, 1000000 - 2000 * j - 1011, rfl, ((hb4.same s5).same s6).mono (by omega), by decide, by decide, fun tk H7 t0 t1 hb7 sb7 => ?_⟩
      obtain ⟨tk, rfl⟩ : ∃ k : Nat, tk = k := ⟨tk.toNat, by omega⟩
      have hp7 := sb7 _ _ nep (s6 _ _ (s5 _ _ hp4))
      have hd7 := sb7 _ _ nepd (s6 _ _ (s5 _ _ hpd))
      walk_at "rd"
      obtain ⟨r1, er1, r11, r12⟩ := room_ok ((is.map V.int).length : Int)
      obtain ⟨r2, er2, r21, r22⟩ := room_ok (((is.map V.int).length : Int) - 1)
      rw [er1, er2]
      refine And.intro (by show 5 ≤ sizeLine; decide) ?_
      intro l nl
      generalize hg8 : upd _ l _ = H8
      have s8 := same_of hg8 nl
      have v8 : H8 l = some (.lst (([1 + tk, 1, 76, r1, r2] : List Nat).map fun n => V.int (n : Nat))) := at_of hg8
      clear hg8
      have S8 : Same G' H8 := (same_mutB nb (S5.trans s6) sb7).trans s8
      walk_at "rd"
      refine r_iseqL ?_
      walk_at "rd"
      refine ⟨l, rfl, ⟨_, ql v8⟩, fun D nD => ?_⟩
      refine c_it (walk_list (K := K) (a := l) (xs := ([1 + tk, 1, 76, r1, r2] : List Nat).map fun n => V.int (n : Nat))) (fun i G => G D = some (.lst ((List.replicate i true).map V.bl)) ∧ Same H8 G) ⟨upd_same, same_new nD⟩ (fun i G _ h => ql (h.2 _ _ v8)) ?_ ?_
      · rintro k y G3 G3' hk ⟨hD, sG⟩ ⟨rfl, hy⟩
        rw [List.getElem?_map] at hy
        obtain ⟨w, hw, rfl⟩ := Option.map_eq_some_iff.mp hy
        have wm := List.mem_of_getElem? hw
        have wb : 1 ≤ w ∧ w ≤ 76 := by
          simp only [List.mem_cons, List.not_mem_nil, or_false] at wm
          omega
        walk_at "rd"
        refine ⟨rfl, ?_⟩
        walk_at "rd"
        refine ⟨p, pd, z, d, w0, w, xs, rfl, sG _ _ (s8 _ _ hp7), hdr2, wb.1, wb.2, sG _ _ (s8 _ _ hd7), by omega, hx, fun H9 s9 => ?_⟩
        refine ⟨_, s9 _ _ hD, ?_, ?_, same_mut (sG.trans s9) nD⟩
        · rw [List.length_map, List.length_replicate]
          exact Nat.lt_of_lt_of_le hk (smallS (by show 5 ≤ 100000; decide))
        · rw [upd_same, List.replicate_succ', List.map_append]
          rfl
      rintro G3 ⟨hD, sG⟩
      walk_at "rd"
      refine r_all (ql hD) ?_
      rw [show ∀ n : Nat, (List.replicate n true).all id = true from fun n => by simp]
      walk_at "rd"
      exact ⟨_, _, _, _, _, _, rfl, S8.trans sG, (((hb7.same s8).same sG)).mono (by omega)⟩
    · rintro σ G2 ⟨w3, w4, w5, w6, w7, w8, rfl, s2, hb⟩
      exact ⟨_, _, _, _, _, _, _, _, rfl, s.trans s2⟩
  · rintro σ G ⟨v1, v2, v3, v4, v5, v6, v7, v8, rfl, s⟩
    walk_at "rd"
    exact q G
theorem ok_law (T : Txt K mg) : FnOk P w K mg base CX0 10 T.law_a T.law_d ["_law_script"] (sp_law T) := by
  refine T.law_f.ok sc_law (fun vs H Q E h => len_law T vs H Q E h) (fun cdv A outer s H vs Q E hr h => ⟨t_law T, PSs.nox ?_, pure_law T vs H Q E h⟩)
  have hu := hu64 hr
  exact (pss_cons (ps_for PassesOwn.never rfl (pi_range1 (by rfl) T.n_range (pa_cons (pe_callB (call_max2 rfl) (by rfl) T.n_max (by decide +kernel) (pa_cons pe_int (pa_cons (pe_callB (call_min2 rfl) (by rfl) T.n_min (by decide +kernel) (pa_cons pe_int (pa_cons (pe_callB c_lenU (by rfl) T.n_len (by decide +kernel) (pa_cons (pv 0) pa_nil)) pa_nil))) pa_nil))) pa_nil)) (pg_name (i := 1) sc_law.nd rfl (.inl rfl)) (pss_cons (ps_set (i := 2) sc_law.nd rfl (.inl rfl) (pe_call (ok_l_bag T) (hr.mono (by decide)) (by rfl) T.l_bag_g T.l_bag_f.kp T.l_bag_b .nil pass0 (pa_cons (pv 0) (pa_cons (pv 1) pa_nil))))
      (pss_one (ps_for PassesOwn.never rfl (pi_range1 (by rfl) T.n_range (pa_cons pe_int pa_nil)) (pg_name (i := 3) sc_law.nd rfl (.inl rfl)) (pss_cons (ps_asg (pe_tup (pa_cons (pe_call (ok_l_code T) (hr.mono (by decide)) (by rfl) T.l_code_g T.l_code_f.kp T.l_code_b .nil pass0 (pa_cons (pv 2) pa_nil)) (pa_cons (pe_call (ok_l_data T) (hr.mono (by decide)) (by rfl) T.l_data_g T.l_data_f.kp T.l_data_b .nil pass0 (pa_cons (pv 2) (pa_cons pe_int pa_nil))) pa_nil))) (pg_tup (by rfl) (pgs_cons (pg_name (i := 4) sc_law.nd rfl (.inr rfl)) (pgs_cons (pg_name (i := 5) sc_law.nd rfl (.inr rfl)) pgs_nil))))
      (pss_cons (ps_set (i := 6) sc_law.nd rfl (.inl rfl) (pe_callB c_lenU (by rfl) T.n_len (by decide +kernel) (pa_cons (pe_call (ok_l_digits T) (hr.mono (by decide)) (by rfl) T.l_digits_g T.l_digits_f.kp T.l_digits_b .nil pass0 (pa_cons (pv 4) (pa_cons (pv 5) pa_nil))) pa_nil)))
      (pss_cons (ps_set (i := 7) sc_law.nd rfl (.inl rfl) (pe_lst (pa_cons (pe_op op_addU pe_int (pe_call (ok_l_take T) (hr.mono (by decide)) (by rfl) T.l_take_g T.l_take_f.kp T.l_take_b .nil pass0 (pa_cons (pv 2) (pa_cons pe_int pa_nil)))) (pa_cons pe_int (pa_cons pe_int (pa_cons (pe_callB (call_max2 rfl) (by rfl) T.n_max (by decide +kernel) (pa_cons pe_int (pa_cons (pe_callB (call_min2 rfl) (by rfl) T.n_min (by decide +kernel) (pa_cons pe_int (pa_cons (pv 6) pa_nil))) pa_nil))) (pa_cons (pe_callB (call_max2 rfl) (by rfl) T.n_max (by decide +kernel) (pa_cons pe_int (pa_cons (pe_callB (call_min2 rfl) (by rfl) T.n_min (by decide +kernel) (pa_cons pe_int (pa_cons (pe_op op_sub (pv 6) pe_int) pa_nil))) pa_nil))) pa_nil)))))))
      (pss_one (ps_if (pt_not (pt_val (pe_callB (cr_all rfl) (by rfl) T.n_all (by decide +kernel) (pa_cons (pe_lc (own := [("_law_room", 8)]) (g := (gName 8)) (tt := tYes) rfl sc_law.nd (pi_seqU (pv 7)) (blkOk_by (own := [("_law_room", 8)]) (N := ["_law_script", "_law_at", "_law_bag_here", "_law_turn", "_law_code_here", "_law_some", "_law_many", "_law_rooms", "_law_room"]) (sc := defScope s_law) (by decide +kernel)) (fun _ _ _ _ _ => (pg_name (i := 8) sc_law.nd rfl (.inl rfl))) (fun _ _ _ _ _ => pts_nil) (fun _ _ _ _ _ => (pe_call (ok_l_right T) (hr.mono (by decide)) (by rfl) T.l_right_g T.l_right_f.kp T.l_right_b .nil pass0 (pa_cons (pv 4) (pa_cons (pv 8) (pa_cons (pv 5) pa_nil)))))) pa_nil)))) (pss_one (ps_ret pe_bl)) pss_nil)))))))))
      (pss_one (ps_ret pe_bl)))


end
section
variable {P : Program} {w : World} {K : PySem.W.Frag} {mg : Str → Option Value} {base : Heap}
theorem kb_pad_width {fd : FuncData} {a : Addr} (F : FunD K "__init__" "Code.__init__" (defArgs s_Code___init__) (defBody s_Code___init__) (defScope s_Code___init__) [] [("pad", .str (Str.ofString "")), ("width", .int 0)] a fd) :
    ∃ g, KBn K fd ["self", "signs", "pad", "width"] 2 ["pad", "width"] g (fun vs zs => vs ++ zs) := by
  obtain ⟨mv, h⟩ := FunD.kbinds0 (ps := ["self", "signs", "pad", "width"]) F 2 ["pad", "width"] [] (fun a m z => a ++ z) (by simp) (by simp) (fun r1 r2 r3 => r1.append r3)
    (fun D doc pm an cdv ct us mv ws l1 l2 l3 => match us, mv, ws, l1, l2, l3 with | [_, _], [], [_, _], _, _, _ => rfl)
  exact ⟨_, h⟩
theorem kb_pad {fd : FuncData} {a : Addr} (F : FunD K "__init__" "Code.__init__" (defArgs s_Code___init__) (defBody s_Code___init__) (defScope s_Code___init__) [] [("pad", .str (Str.ofString "")), ("width", .int 0)] a fd) :
    ∃ g, KBn K fd ["self", "signs", "pad", "width"] 2 ["pad"] g (fun vs zs => vs ++ (zs ++ [.int 0])) := by
  obtain ⟨mv, h⟩ := FunD.kbinds0 (ps := ["self", "signs", "pad", "width"]) F 2 ["pad"] [("width", .int 0)] (fun a m z => a ++ (z ++ m)) (by simp) (by simp) (fun r1 r2 r3 => r1.append (r3.append r2))
    (fun D doc pm an cdv ct us mv ws l1 l2 l3 => match us, mv, ws, l1, l2, l3 with | [_, _], [_], [_], _, _, _ => ⟨_, _, _, _, _, _, rfl, rfl, rfl⟩)
  exact ⟨_, h⟩

end
section
variable {P : Program} {w : World} {K : PySem.W.Frag} {mg : Str → Option Value} {base : Heap}
def d_is_integer : DefA := ⟨wGlo "is_integer", "is_integer", "is_integer", defArgs s_is_integer, defBody s_is_integer, defScope s_is_integer, [], []⟩
def d_is_within : DefA := ⟨wGlo "is_within", "is_within", "is_within", defArgs s_is_within, defBody s_is_within, defScope s_is_within, [], []⟩
def d_is_byte : DefA := ⟨wGlo "is_byte", "is_byte", "is_byte", defArgs s_is_byte, defBody s_is_byte, defScope s_is_byte, [], []⟩
def d_is_sign : DefA := ⟨wGlo "is_sign", "is_sign", "is_sign", defArgs s_is_sign, defBody s_is_sign, defScope s_is_sign, [], []⟩
def d_are_signs : DefA := ⟨wGlo "are_signs", "are_signs", "are_signs", defArgs s_are_signs, defBody s_are_signs, defScope s_are_signs, [], []⟩
def d_data_of : DefA := ⟨wGlo "data_of", "data_of", "data_of", defArgs s_data_of, defBody s_data_of, defScope s_data_of, [], []⟩
def d_Code_signs : DefA := ⟨wGet "Code" "signs", "signs", "Code.signs", defArgs s_Code_signs, defBody s_Code_signs, defScope s_Code_signs, [], []⟩
def d_Code_pad : DefA := ⟨wGet "Code" "pad", "pad", "Code.pad", defArgs s_Code_pad, defBody s_Code_pad, defScope s_Code_pad, [], []⟩
def d_Code_width : DefA := ⟨wGet "Code" "width", "width", "Code.width", defArgs s_Code_width, defBody s_Code_width, defScope s_Code_width, [], []⟩
def d_Code_bits : DefA := ⟨wGet "Code" "bits", "bits", "Code.bits", defArgs s_Code_bits, defBody s_Code_bits, defScope s_Code_bits, [], []⟩
def d_Code_group : DefA := ⟨wGet "Code" "group", "group", "Code.group", defArgs s_Code_group, defBody s_Code_group, defScope s_Code_group, [], []⟩
def d_Code_begin : DefA := ⟨wMeth "Code" "begin", "begin", "Code.begin", defArgs s_Code_begin, defBody s_Code_begin, defScope s_Code_begin, [], []⟩
def d_Code_is_full : DefA := ⟨wMeth "Code" "is_full", "is_full", "Code.is_full", defArgs s_Code_is_full, defBody s_Code_is_full, defScope s_Code_is_full, [], []⟩
def d_Code_next_column : DefA := ⟨wMeth "Code" "next_column", "next_column", "Code.next_column", defArgs s_Code_next_column, defBody s_Code_next_column, defScope s_Code_next_column, [], []⟩
def d_Code_placed : DefA := ⟨wMeth "Code" "placed", "placed", "Code.placed", defArgs s_Code_placed, defBody s_Code_placed, defScope s_Code_placed, [], []⟩
def d_Code_write : DefA := ⟨wMeth "Code" "write", "write", "Code.write", defArgs s_Code_write, defBody s_Code_write, defScope s_Code_write, [], []⟩
def d_Code_close : DefA := ⟨wMeth "Code" "close", "close", "Code.close", defArgs s_Code_close, defBody s_Code_close, defScope s_Code_close, [], []⟩
def d_Machine_whole : DefA := ⟨wMeth "Code" "whole", "whole", "Machine.whole", defArgs s_Machine_whole, defBody s_Machine_whole, defScope s_Machine_whole, [], []⟩
def d_plain_text : DefA := ⟨wGlo "plain_text", "plain_text", "plain_text", defArgs s_plain_text, defBody s_plain_text, defScope s_plain_text, [], []⟩
def d_text_of : DefA := ⟨wGlo "text_of", "text_of", "text_of", defArgs s_text_of, defBody s_text_of, defScope s_text_of, [], []⟩
def d_Code___init__ : DefA := ⟨wMeth "Code" "__init__", "__init__", "Code.__init__", defArgs s_Code___init__, defBody s_Code___init__, defScope s_Code___init__, [], [("pad", .str ""), ("width", .int 0)]⟩
def d_l_bag : DefA := ⟨wGlo "_law_bag", "_law_bag", "_law_bag", defArgs s_l_bag, defBody s_l_bag, defScope s_l_bag, [], []⟩
def d_l_take : DefA := ⟨wGlo "_law_take", "_law_take", "_law_take", defArgs s_l_take, defBody s_l_take, defScope s_l_take, [], []⟩
def d_l_of : DefA := ⟨wGlo "_law_of", "_law_of", "_law_of", defArgs s_l_of, defBody s_l_of, defScope s_l_of, [], []⟩
def d_l_all_signs : DefA := ⟨wGlo "_law_all_signs", "_law_all_signs", "_law_all_signs", defArgs s_l_all_signs, defBody s_l_all_signs, defScope s_l_all_signs, [], []⟩
def d_l_code : DefA := ⟨wGlo "_law_code", "_law_code", "_law_code", defArgs s_l_code, defBody s_l_code, defScope s_l_code, [], []⟩
def d_l_size : DefA := ⟨wGlo "_law_size", "_law_size", "_law_size", defArgs s_l_size, defBody s_l_size, defScope s_l_size, [], []⟩
def d_l_data : DefA := ⟨wGlo "_law_data", "_law_data", "_law_data", defArgs s_l_data, defBody s_l_data, defScope s_l_data, [], []⟩
def d_l_bits : DefA := ⟨wGlo "_law_bits", "_law_bits", "_law_bits", defArgs s_l_bits, defBody s_l_bits, defScope s_l_bits, [], []⟩
def d_l_number : DefA := ⟨wGlo "_law_number", "_law_number", "_law_number", defArgs s_l_number, defBody s_l_number, defScope s_l_number, [], []⟩
def d_l_digits : DefA := ⟨wGlo "_law_digits", "_law_digits", "_law_digits", defArgs s_l_digits, defBody s_l_digits, defScope s_l_digits, [], []⟩
def d_l_right : DefA := ⟨wGlo "_law_right", "_law_right", "_law_right", defArgs s_l_right, defBody s_l_right, defScope s_l_right, [], []⟩
def d_law : DefA := ⟨wGlo "law", "law", "law", defArgs s_law, defBody s_law, defScope s_law, [], []⟩
def hdefs : List DefA := [d_is_integer, d_is_within, d_is_byte, d_is_sign, d_are_signs, d_data_of, d_Code_signs, d_Code_pad, d_Code_width, d_Code_bits, d_Code_group, d_Code_begin, d_Code_is_full, d_Code_next_column, d_Code_placed, d_Code_write, d_Code_close, d_Machine_whole, d_plain_text, d_text_of, d_Code___init__, d_l_bag, d_l_take, d_l_of, d_l_all_signs, d_l_code, d_l_size, d_l_data, d_l_bits, d_l_number, d_l_digits, d_l_right, d_law]
def hfacts : List Fact := [fFa (.glo "Code"), fFa (.cls "Code"), fFa (.glo "is_integer"), fFa (.glo "is_within"), fFa (.glo "is_byte"), fFa (.glo "is_sign"), fFa (.glo "are_signs"), fFa (.glo "data_of"), fProp "Code" "signs", fProp "Code" "pad", fProp "Code" "width", fProp "Code" "bits", fProp "Code" "group", fFa (.meth "Code" "begin"), fFa (.meth "Code" "is_full"), fFa (.meth "Code" "next_column"), fFa (.meth "Code" "placed"), fFa (.meth "Code" "write"), fFa (.meth "Code" "close"), fFa (.meth "Code" "whole"), fFa (.glo "plain_text"), fFa (.glo "text_of"), fFa (.mkr "Code"), fFa (.glo "_law_bag"), fFa (.glo "_law_take"), fFa (.glo "_law_of"), fFa (.glo "_law_all_signs"), fFa (.glo "_law_code"), fFa (.glo "_law_size"), fFa (.glo "_law_data"), fFa (.glo "_law_bits"), fFa (.glo "_law_number"), fFa (.glo "_law_digits"), fFa (.glo "_law_right"), fFa (.glo "law"), fFa (.noat "Code" "parts"), fFa (.noat "Code" "sign_bits"), fFa (.noat "Code" "digits"), fCRead "Code", fCVal "Code" "WIDEST" (.int 76), fFa (.str "PRINTED" " !\"#$&'()*+,-./0123456789:;<=>?@ABCDEFGHIJKLMNOPQRSTUVWXYZ[\\]^_`abcdefghijklmnopqrstuvwxyz{|}~"), fFa (.int "MOST_BYTES" 600), fFa (.glo "GROUPS"), fTup "GROUPS" [.int 0, .int 8, .int 4, .int 8, .int 2, .int 8, .int 4], fFa (.str "NEWLINE" "\n"), fFa (.glo "BITS"), (fun K => idB K (He.ga K "BITS") [(2, 1), (4, 2), (8, 3), (16, 4), (32, 5), (64, 6)]), fFa (.free "abs"), fFa (.free "all"), fFa (.free "bool"), fFa (.free "enumerate"), fFa (.free "int"), fFa (.free "isinstance"), fFa (.free "len"), fFa (.free "list"), fFa (.free "max"), fFa (.free "min"), fFa (.free "range"), fFa (.free "str"), fFa (.free "tuple")]
abbrev hrow : PySem.W.OpenRow := PySem.W.OpenLaw.row PySem.Challenge.rw_piecetexts_k10_rows_of_bit_codes
abbrev hhook : PySem.W.Hook := hookA 6 hfacts hdefs
def hob (s : PySem.W.SharedT) : AlA := obsAG 6 hfacts hdefs (HandSHeadRun.getT s)
theorem hob_eq (s : PySem.W.SharedT) : hob s = hhook.obs s.abs := obsAG_eq (HandSHeadRun.getT_eq s)
abbrev hloose0 : List Str := ["_wall", "BadSigns", "BadOption", "NoByte", "PRINTED", "CAPITALS", "SMALLS", "MOST_BYTES", "is_integer", "is_within", "is_byte", "is_sign", "are_signs", "data_of", "other_case", "plain_text", "text_of", "Machine", "BYTE_BITS", "BITS", "GROUPS", "NEWLINE", "Code", "_law_bag", "_law_take", "_law_of", "_law_all_signs", "_law_code", "_law_size", "_law_data"]
abbrev hloose1 : List Str := ["_law_bits", "_law_number", "_law_digits", "_law_right"]
abbrev hloose : List Str := hloose0 ++ hloose1
theorem hrun_true (w : World) : HandSHeadRun.RunEq hrow (PySem.W.view hrow.prog [40]) hhook hob 6000 hloose (w.withFollow "special-get-raises" true) := by
  intro os
  kernel_rfl
theorem hrun_false (w : World) : HandSHeadRun.RunEq hrow (PySem.W.view hrow.prog [40]) hhook hob 6000 hloose (w.withFollow "special-get-raises" false) := by
  intro os
  kernel_rfl
theorem hrun (w : World) : HandSHeadRun.RunEq hrow (PySem.W.view hrow.prog [40]) hhook hob 6000 hloose w := PySem.W.byRow2 "special-get-raises" (P := fun w => HandSHeadRun.RunEq hrow (PySem.W.view hrow.prog [40]) hhook hob 6000 hloose w) hrun_false hrun_true w
theorem htxt {K : PySem.W.Frag} {h : Heap} {mg : Str → Option Value} {f : Addr} (X : K.In h) (G : h.Ns mainGlobals mg) (hfa : mg ("law" : Str) = some (.ref f)) (c : SaysA hfacts hdefs K) :
    ∃ T : Txt K mg, T.law_a = f ∧ ∀ (s : Shared) (v : Value), BindsTo s T.law_d ⟨[v], []⟩ [("_law_script", v)] := by
  obtain ⟨fd_is_integer, F_is_integer⟩ := c.def_ 0 (d := d_is_integer) rfl
  obtain ⟨fd_is_within, F_is_within⟩ := c.def_ 1 (d := d_is_within) rfl
  obtain ⟨fd_is_byte, F_is_byte⟩ := c.def_ 2 (d := d_is_byte) rfl
  obtain ⟨fd_is_sign, F_is_sign⟩ := c.def_ 3 (d := d_is_sign) rfl
  obtain ⟨fd_are_signs, F_are_signs⟩ := c.def_ 4 (d := d_are_signs) rfl
  obtain ⟨fd_data_of, F_data_of⟩ := c.def_ 5 (d := d_data_of) rfl
  obtain ⟨fd_Code_signs, F_Code_signs⟩ := c.def_ 6 (d := d_Code_signs) rfl
  obtain ⟨fd_Code_pad, F_Code_pad⟩ := c.def_ 7 (d := d_Code_pad) rfl
  obtain ⟨fd_Code_width, F_Code_width⟩ := c.def_ 8 (d := d_Code_width) rfl
  obtain ⟨fd_Code_bits, F_Code_bits⟩ := c.def_ 9 (d := d_Code_bits) rfl
  obtain ⟨fd_Code_group, F_Code_group⟩ := c.def_ 10 (d := d_Code_group) rfl
  obtain ⟨fd_Code_begin, F_Code_begin⟩ := c.def_ 11 (d := d_Code_begin) rfl
  obtain ⟨fd_Code_is_full, F_Code_is_full⟩ := c.def_ 12 (d := d_Code_is_full) rfl
  obtain ⟨fd_Code_next_column, F_Code_next_column⟩ := c.def_ 13 (d := d_Code_next_column) rfl
  obtain ⟨fd_Code_placed, F_Code_placed⟩ := c.def_ 14 (d := d_Code_placed) rfl
  obtain ⟨fd_Code_write, F_Code_write⟩ := c.def_ 15 (d := d_Code_write) rfl
  obtain ⟨fd_Code_close, F_Code_close⟩ := c.def_ 16 (d := d_Code_close) rfl
  obtain ⟨fd_Machine_whole, F_Machine_whole⟩ := c.def_ 17 (d := d_Machine_whole) rfl
  obtain ⟨fd_plain_text, F_plain_text⟩ := c.def_ 18 (d := d_plain_text) rfl
  obtain ⟨fd_text_of, F_text_of⟩ := c.def_ 19 (d := d_text_of) rfl
  obtain ⟨fd_Code___init__, F_Code___init__⟩ := c.def_ 20 (d := d_Code___init__) rfl
  obtain ⟨fd_l_bag, F_l_bag⟩ := c.def_ 21 (d := d_l_bag) rfl
  obtain ⟨fd_l_take, F_l_take⟩ := c.def_ 22 (d := d_l_take) rfl
  obtain ⟨fd_l_of, F_l_of⟩ := c.def_ 23 (d := d_l_of) rfl
  obtain ⟨fd_l_all_signs, F_l_all_signs⟩ := c.def_ 24 (d := d_l_all_signs) rfl
  obtain ⟨fd_l_code, F_l_code⟩ := c.def_ 25 (d := d_l_code) rfl
  obtain ⟨fd_l_size, F_l_size⟩ := c.def_ 26 (d := d_l_size) rfl
  obtain ⟨fd_l_data, F_l_data⟩ := c.def_ 27 (d := d_l_data) rfl
  obtain ⟨fd_l_bits, F_l_bits⟩ := c.def_ 28 (d := d_l_bits) rfl
  obtain ⟨fd_l_number, F_l_number⟩ := c.def_ 29 (d := d_l_number) rfl
  obtain ⟨fd_l_digits, F_l_digits⟩ := c.def_ 30 (d := d_l_digits) rfl
  obtain ⟨fd_l_right, F_l_right⟩ := c.def_ 31 (d := d_l_right) rfl
  obtain ⟨fd_law, F_law⟩ := c.def_ 32 (d := d_law) rfl
  have g_law := He.glo_ok X G (c.fact 34 (f := fFa (.glo "law")) rfl)
  have e := hfa.symm.trans g_law
  cases e
  obtain ⟨t_PRINTED, h_PRINTED⟩ := He.str_ok X G (c.fact 40 (f := fFa (.str "PRINTED" " !\"#$&'()*+,-./0123456789:;<=>?@ABCDEFGHIJKLMNOPQRSTUVWXYZ[\\]^_`abcdefghijklmnopqrstuvwxyz{|}~")) rfl)
  obtain ⟨t_MOST_BYTES, h_MOST_BYTES⟩ := He.int_ok X G (c.fact 41 (f := fFa (.int "MOST_BYTES" 600)) rfl)
  obtain ⟨t_NEWLINE, h_NEWLINE⟩ := He.str_ok X G (c.fact 44 (f := fFa (.str "NEWLINE" "\n")) rfl)
  refine ⟨{
    C_Code := He.ga K "Code"
    C_Code_g := He.glo_ok X G (c.fact 0 (f := fFa (.glo "Code")) rfl)
    C_Code_c := He.cls_ok (c.fact 1 (f := fFa (.cls "Code")) rfl)
    is_integer_a := _
    is_integer_d := fd_is_integer
    is_integer_f := F_is_integer
    is_integer_g := He.glo_ok X G (c.fact 2 (f := fFa (.glo "is_integer")) rfl)
    is_integer_b := FunD.bindsN (ps := ["value"]) F_is_integer fun _ _ _ _ _ _ us hl => match us, hl with | [_], _ => rfl
    is_within_a := _
    is_within_d := fd_is_within
    is_within_f := F_is_within
    is_within_g := He.glo_ok X G (c.fact 3 (f := fFa (.glo "is_within")) rfl)
    is_within_b := FunD.bindsN (ps := ["value", "low", "high"]) F_is_within fun _ _ _ _ _ _ us hl => match us, hl with | [_, _, _], _ => rfl
    is_byte_a := _
    is_byte_d := fd_is_byte
    is_byte_f := F_is_byte
    is_byte_g := He.glo_ok X G (c.fact 4 (f := fFa (.glo "is_byte")) rfl)
    is_byte_b := FunD.bindsN (ps := ["value"]) F_is_byte fun _ _ _ _ _ _ us hl => match us, hl with | [_], _ => rfl
    is_sign_a := _
    is_sign_d := fd_is_sign
    is_sign_f := F_is_sign
    is_sign_g := He.glo_ok X G (c.fact 5 (f := fFa (.glo "is_sign")) rfl)
    is_sign_b := FunD.bindsN (ps := ["value"]) F_is_sign fun _ _ _ _ _ _ us hl => match us, hl with | [_], _ => rfl
    are_signs_a := _
    are_signs_d := fd_are_signs
    are_signs_f := F_are_signs
    are_signs_g := He.glo_ok X G (c.fact 6 (f := fFa (.glo "are_signs")) rfl)
    are_signs_b := FunD.bindsN (ps := ["value"]) F_are_signs fun _ _ _ _ _ _ us hl => match us, hl with | [_], _ => rfl
    data_of_a := _
    data_of_d := fd_data_of
    data_of_f := F_data_of
    data_of_g := He.glo_ok X G (c.fact 7 (f := fFa (.glo "data_of")) rfl)
    data_of_b := FunD.bindsN (ps := ["value"]) F_data_of fun _ _ _ _ _ _ us hl => match us, hl with | [_], _ => rfl
    Code_signs_a := _
    Code_signs_d := fd_Code_signs
    Code_signs_f := F_Code_signs
    Code_signs_q := _
    Code_signs_p := fProp_ok (c.fact 8 (f := fProp "Code" "signs") rfl)
    Code_signs_b := FunD.bindsN (ps := ["self"]) F_Code_signs fun _ _ _ _ _ _ us hl => match us, hl with | [_], _ => rfl
    Code_pad_a := _
    Code_pad_d := fd_Code_pad
    Code_pad_f := F_Code_pad
    Code_pad_q := _
    Code_pad_p := fProp_ok (c.fact 9 (f := fProp "Code" "pad") rfl)
    Code_pad_b := FunD.bindsN (ps := ["self"]) F_Code_pad fun _ _ _ _ _ _ us hl => match us, hl with | [_], _ => rfl
    Code_width_a := _
    Code_width_d := fd_Code_width
    Code_width_f := F_Code_width
    Code_width_q := _
    Code_width_p := fProp_ok (c.fact 10 (f := fProp "Code" "width") rfl)
    Code_width_b := FunD.bindsN (ps := ["self"]) F_Code_width fun _ _ _ _ _ _ us hl => match us, hl with | [_], _ => rfl
    Code_bits_a := _
    Code_bits_d := fd_Code_bits
    Code_bits_f := F_Code_bits
    Code_bits_q := _
    Code_bits_p := fProp_ok (c.fact 11 (f := fProp "Code" "bits") rfl)
    Code_bits_b := FunD.bindsN (ps := ["self"]) F_Code_bits fun _ _ _ _ _ _ us hl => match us, hl with | [_], _ => rfl
    Code_group_a := _
    Code_group_d := fd_Code_group
    Code_group_f := F_Code_group
    Code_group_q := _
    Code_group_p := fProp_ok (c.fact 12 (f := fProp "Code" "group") rfl)
    Code_group_b := FunD.bindsN (ps := ["self"]) F_Code_group fun _ _ _ _ _ _ us hl => match us, hl with | [_], _ => rfl
    Code_begin_a := _
    Code_begin_d := fd_Code_begin
    Code_begin_f := F_Code_begin
    Code_begin_m := He.meth_ok (c.fact 13 (f := fFa (.meth "Code" "begin")) rfl)
    Code_begin_b := FunD.bindsN (ps := ["self"]) F_Code_begin fun _ _ _ _ _ _ us hl => match us, hl with | [_], _ => rfl
    Code_is_full_a := _
    Code_is_full_d := fd_Code_is_full
    Code_is_full_f := F_Code_is_full
    Code_is_full_m := He.meth_ok (c.fact 14 (f := fFa (.meth "Code" "is_full")) rfl)
    Code_is_full_b := FunD.bindsN (ps := ["self", "column"]) F_Code_is_full fun _ _ _ _ _ _ us hl => match us, hl with | [_, _], _ => rfl
    Code_next_column_a := _
    Code_next_column_d := fd_Code_next_column
    Code_next_column_f := F_Code_next_column
    Code_next_column_m := He.meth_ok (c.fact 15 (f := fFa (.meth "Code" "next_column")) rfl)
    Code_next_column_b := FunD.bindsN (ps := ["self", "column"]) F_Code_next_column fun _ _ _ _ _ _ us hl => match us, hl with | [_, _], _ => rfl
    Code_placed_a := _
    Code_placed_d := fd_Code_placed
    Code_placed_f := F_Code_placed
    Code_placed_m := He.meth_ok (c.fact 16 (f := fFa (.meth "Code" "placed")) rfl)
    Code_placed_b := FunD.bindsN (ps := ["self", "column", "sign"]) F_Code_placed fun _ _ _ _ _ _ us hl => match us, hl with | [_, _, _], _ => rfl
    Code_write_a := _
    Code_write_d := fd_Code_write
    Code_write_f := F_Code_write
    Code_write_m := He.meth_ok (c.fact 17 (f := fFa (.meth "Code" "write")) rfl)
    Code_write_b := FunD.bindsN (ps := ["self", "state", "byte"]) F_Code_write fun _ _ _ _ _ _ us hl => match us, hl with | [_, _, _], _ => rfl
    Code_close_a := _
    Code_close_d := fd_Code_close
    Code_close_f := F_Code_close
    Code_close_m := He.meth_ok (c.fact 18 (f := fFa (.meth "Code" "close")) rfl)
    Code_close_b := FunD.bindsN (ps := ["self", "state"]) F_Code_close fun _ _ _ _ _ _ us hl => match us, hl with | [_, _], _ => rfl
    Machine_whole_a := _
    Machine_whole_d := fd_Machine_whole
    Machine_whole_f := F_Machine_whole
    Machine_whole_m := He.meth_ok (c.fact 19 (f := fFa (.meth "Code" "whole")) rfl)
    Machine_whole_b := FunD.bindsN (ps := ["self", "data"]) F_Machine_whole fun _ _ _ _ _ _ us hl => match us, hl with | [_, _], _ => rfl
    plain_text_a := _
    plain_text_d := fd_plain_text
    plain_text_f := F_plain_text
    plain_text_g := He.glo_ok X G (c.fact 20 (f := fFa (.glo "plain_text")) rfl)
    plain_text_b := FunD.bindsN (ps := ["code", "data"]) F_plain_text fun _ _ _ _ _ _ us hl => match us, hl with | [_, _], _ => rfl
    text_of_a := _
    text_of_d := fd_text_of
    text_of_f := F_text_of
    text_of_g := He.glo_ok X G (c.fact 21 (f := fFa (.glo "text_of")) rfl)
    text_of_b := FunD.bindsN (ps := ["code", "data"]) F_text_of fun _ _ _ _ _ _ us hl => match us, hl with | [_, _], _ => rfl
    Code___init___a := _
    Code___init___d := fd_Code___init__
    Code___init___f := F_Code___init__
    C_Code_m := He.mkr_ok (c.fact 22 (f := fFa (.mkr "Code")) rfl)
    l_bag_a := _
    l_bag_d := fd_l_bag
    l_bag_f := F_l_bag
    l_bag_g := He.glo_ok X G (c.fact 23 (f := fFa (.glo "_law_bag")) rfl)
    l_bag_b := FunD.bindsN (ps := ["_law_script", "_law_at"]) F_l_bag fun _ _ _ _ _ _ us hl => match us, hl with | [_, _], _ => rfl
    l_take_a := _
    l_take_d := fd_l_take
    l_take_f := F_l_take
    l_take_g := He.glo_ok X G (c.fact 24 (f := fFa (.glo "_law_take")) rfl)
    l_take_b := FunD.bindsN (ps := ["_law_bag_here", "_law_many"]) F_l_take fun _ _ _ _ _ _ us hl => match us, hl with | [_, _], _ => rfl
    l_of_a := _
    l_of_d := fd_l_of
    l_of_f := F_l_of
    l_of_g := He.glo_ok X G (c.fact 25 (f := fFa (.glo "_law_of")) rfl)
    l_of_b := FunD.bindsN (ps := ["_law_bag_here", "_law_some"]) F_l_of fun _ _ _ _ _ _ us hl => match us, hl with | [_, _], _ => rfl
    l_all_signs_a := _
    l_all_signs_d := fd_l_all_signs
    l_all_signs_f := F_l_all_signs
    l_all_signs_g := He.glo_ok X G (c.fact 26 (f := fFa (.glo "_law_all_signs")) rfl)
    l_all_signs_b := FunD.bindsN (ps := []) F_l_all_signs fun _ _ _ _ _ _ us hl => match us, hl with | [], _ => rfl
    l_code_a := _
    l_code_d := fd_l_code
    l_code_f := F_l_code
    l_code_g := He.glo_ok X G (c.fact 27 (f := fFa (.glo "_law_code")) rfl)
    l_code_b := FunD.bindsN (ps := ["_law_bag_here"]) F_l_code fun _ _ _ _ _ _ us hl => match us, hl with | [_], _ => rfl
    l_size_a := _
    l_size_d := fd_l_size
    l_size_f := F_l_size
    l_size_g := He.glo_ok X G (c.fact 28 (f := fFa (.glo "_law_size")) rfl)
    l_size_b := FunD.bindsN (ps := ["_law_code_here"]) F_l_size fun _ _ _ _ _ _ us hl => match us, hl with | [_], _ => rfl
    l_data_a := _
    l_data_d := fd_l_data
    l_data_f := F_l_data
    l_data_g := He.glo_ok X G (c.fact 29 (f := fFa (.glo "_law_data")) rfl)
    l_data_b := FunD.bindsN (ps := ["_law_bag_here", "_law_most"]) F_l_data fun _ _ _ _ _ _ us hl => match us, hl with | [_, _], _ => rfl
    l_bits_a := _
    l_bits_d := fd_l_bits
    l_bits_f := F_l_bits
    l_bits_g := He.glo_ok X G (c.fact 30 (f := fFa (.glo "_law_bits")) rfl)
    l_bits_b := FunD.bindsN (ps := ["_law_data_here"]) F_l_bits fun _ _ _ _ _ _ us hl => match us, hl with | [_], _ => rfl
    l_number_a := _
    l_number_d := fd_l_number
    l_number_f := F_l_number
    l_number_g := He.glo_ok X G (c.fact 31 (f := fFa (.glo "_law_number")) rfl)
    l_number_b := FunD.bindsN (ps := ["_law_bits_here"]) F_l_number fun _ _ _ _ _ _ us hl => match us, hl with | [_], _ => rfl
    l_digits_a := _
    l_digits_d := fd_l_digits
    l_digits_f := F_l_digits
    l_digits_g := He.glo_ok X G (c.fact 32 (f := fFa (.glo "_law_digits")) rfl)
    l_digits_b := FunD.bindsN (ps := ["_law_code_here", "_law_data_here"]) F_l_digits fun _ _ _ _ _ _ us hl => match us, hl with | [_, _], _ => rfl
    l_right_a := _
    l_right_d := fd_l_right
    l_right_f := F_l_right
    l_right_g := He.glo_ok X G (c.fact 33 (f := fFa (.glo "_law_right")) rfl)
    l_right_b := FunD.bindsN (ps := ["_law_code_here", "_law_room", "_law_some"]) F_l_right fun _ _ _ _ _ _ us hl => match us, hl with | [_, _, _], _ => rfl
    law_a := _
    law_d := fd_law
    law_f := F_law
    law_g := He.glo_ok X G (c.fact 34 (f := fFa (.glo "law")) rfl)
    law_b := FunD.bindsN (ps := ["_law_script"]) F_law fun _ _ _ _ _ _ us hl => match us, hl with | [_], _ => rfl
    Code___init___k1_pad := kb_pad F_Code___init__
    Code___init___k1_pad_width := kb_pad_width F_Code___init__
    C_Code_n_parts := He.noat_ok (c.fact 35 (f := fFa (.noat "Code" "parts")) rfl)
    C_Code_n_sign_bits := He.noat_ok (c.fact 36 (f := fFa (.noat "Code" "sign_bits")) rfl)
    C_Code_n_digits := He.noat_ok (c.fact 37 (f := fFa (.noat "Code" "digits")) rfl)
    C_Code_r := fCRead_ok (c.fact 38 (f := fCRead "Code") rfl)
    C_Code_v_WIDEST := fCVal_ok (c.fact 39 (f := fCVal "Code" "WIDEST" (.int 76)) rfl)
    k_PRINTED_u := _
    k_PRINTED_g := h_PRINTED
    k_PRINTED_r := ⟨t_PRINTED, rfl⟩
    k_MOST_BYTES_u := _
    k_MOST_BYTES_g := h_MOST_BYTES
    k_MOST_BYTES_r := ⟨t_MOST_BYTES, rfl⟩
    k_GROUPS_a := He.ga K "GROUPS"
    k_GROUPS_g := He.glo_ok X G (c.fact 42 (f := fFa (.glo "GROUPS")) rfl)
    k_GROUPS_t := fun H => He.tupB_ok (c.fact 43 (f := fTup "GROUPS" [.int 0, .int 8, .int 4, .int 8, .int 2, .int 8, .int 4]) rfl) H
    k_NEWLINE_u := _
    k_NEWLINE_g := h_NEWLINE
    k_NEWLINE_r := ⟨t_NEWLINE, rfl⟩
    k_BITS_a := He.ga K "BITS"
    k_BITS_g := He.glo_ok X G (c.fact 45 (f := fFa (.glo "BITS")) rfl)
    k_BITS_d := idB_ok (c.fact 46 (f := (fun K => idB K (He.ga K "BITS") [(2, 1), (4, 2), (8, 3), (16, 4), (32, 5), (64, 6)])) rfl)
    n_abs := He.free_ok X G (c.fact 47 (f := fFa (.free "abs")) rfl)
    n_all := He.free_ok X G (c.fact 48 (f := fFa (.free "all")) rfl)
    n_bool := He.free_ok X G (c.fact 49 (f := fFa (.free "bool")) rfl)
    n_enumerate := He.free_ok X G (c.fact 50 (f := fFa (.free "enumerate")) rfl)
    n_int := He.free_ok X G (c.fact 51 (f := fFa (.free "int")) rfl)
    n_isinstance := He.free_ok X G (c.fact 52 (f := fFa (.free "isinstance")) rfl)
    n_len := He.free_ok X G (c.fact 53 (f := fFa (.free "len")) rfl)
    n_list := He.free_ok X G (c.fact 54 (f := fFa (.free "list")) rfl)
    n_max := He.free_ok X G (c.fact 55 (f := fFa (.free "max")) rfl)
    n_min := He.free_ok X G (c.fact 56 (f := fFa (.free "min")) rfl)
    n_range := He.free_ok X G (c.fact 57 (f := fFa (.free "range")) rfl)
    n_str := He.free_ok X G (c.fact 58 (f := fFa (.free "str")) rfl)
    n_tuple := He.free_ok X G (c.fact 59 (f := fFa (.free "tuple")) rfl)
    }, rfl, fun s v => FunD.bindsA (ps := ["_law_script"]) F_law (fun _ _ _ _ _ _ us hl => match us, hl with | [_], _ => rfl) s [v] rfl⟩
end
end Px
open PySem PySem.W PySem.Calls PyProof.Rows
set_option maxHeartbeats 0 in
theorem PySem.Challenge.cw_piecetexts_k10_rows_of_bit_codes_holds : PySem.Challenge.rw_piecetexts_k10_rows_of_bit_codes.Holds := by
  w_on; o_law
  refine HandSHeadRun.head_any (r := OpenLaw.row PySem.Challenge.rw_piecetexts_k10_rows_of_bit_codes) (q := view (OpenLaw.row PySem.Challenge.rw_piecetexts_k10_rows_of_bit_codes).prog [40]) (H := Px.hhook) (ob := Px.hob) (M := 6000) (loose := Px.hloose) (d := HandSHeadRun.topDef (OpenLaw.row PySem.Challenge.rw_piecetexts_k10_rows_of_bit_codes).prog 40) (kwd := []) Px.hob_eq
    (by kernel_rfl) (fun s => by kernel_rfl) Px.hrun (by kernel_rfl) (by kernel_rfl) (by kernel_rfl) (by rfl) (by first | assumption | decide +kernel) (by decide +kernel) ⟨rfl, rfl, rfl, rfl, rfl, by decide +kernel⟩ ?hw ?hc
  case hw => w_witness2
  case hc =>
    refine L2.walk_ofE (l := PySem.Challenge.rw_piecetexts_k10_rows_of_bit_codes) (n := 63) (k := 10) (x := "_law_script") (CX := L2.CX0) rfl (by decide) (by kernel_rfl) ⟨rfl, by decide, by decide⟩ ?F (fun _ _ _ _ z => z)
    intro w mg fa h Y G hmg0
    obtain ⟨K, KX, c⟩ := Y
    have hmg : mg ("law" : PySem.Str) = some (.ref fa) := by
      have e : (HandSHeadRun.topDef (OpenLaw.row PySem.Challenge.rw_piecetexts_k10_rows_of_bit_codes).prog 40).name = ("law" : PySem.Str) := by kernel_rfl
      rw [← e]
      exact hmg0
    obtain ⟨T, rfl, hb⟩ := Px.htxt KX G hmg c
    exact ⟨K, T.law_d, Px.sp_law T, KX, hb, fun H a ns hl _ hS => ⟨a, ns, rfl, hS, hl, fun _ => rfl⟩, fun base _ _ => Px.ok_law T⟩


