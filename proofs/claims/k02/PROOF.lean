import PyProof.Rows.All
import Wide.All
import OpenK.AllK
import Wide.FinOn
import HandS.ForMost
import HandS.IsInst
import HandS.Flow
import HandS.Style
import HandS.Wide
import HandS.Walk
import HandS.ClsMeth
import HandS.Property
import HandS.MakeKwOnly
import HandS.StrMore
import HandS.DictComp
import HandS.SetKeys
import HandS.TupAny
import HandS.Steps
import HandS.Defaults
import KE.GoesNew
import KE.GoesEnum
import KE.GoesMore
import HandS.RaiseMore
import KE.KRevSl
import PyProof.ReprRoads
import PyProof.ReprText
import HandS.HeadEnd
import KE.KxField
import HandS.FStr
import HandS.IntHex
import HandS.SetBool
import HandS.HeadHook1
import HandS.HeadHook2
import PyProof.StrOps2
import HandS.Replace
import KE.KExcSuper
import HandS.Exc
import HandS.ExcInit
import HandS.ExcField
import HandS.ExcOwn
import HandS.WordsExc
import HandS.TryOnly
import HandS.Iter
import PyProof.EnumMake
import PyProof.InstEq
import HandS.HeadNt
import HandS.ReplaceList
import HandS.Head0
import HandS.Head1
import HandS.Head2
import PySem.Challenge.RW_piecetexts_k02_known_codes
set_option Elab.async false
set_option linter.all false
set_option maxRecDepth 100000
set_option maxHeartbeats 1000000
namespace Px
open PySem PySem.Spec PyProof.Rows L2
abbrev S := L2.St

/-! ### heaps that grow -/
def SameB (b : Addr) (H H' : Hp) : Prop := ∀ a o, a ≠ b → H a = some o → H' a = some o
theorem same_new {H : Hp} {p : Addr} {o : HO} (h : H p = none) : Same H (upd H p o) := fun a u e => (upd_ne (ne_of_none e h)).trans e
theorem same_mut {H H' : Hp} {p : Addr} {o : HO} (e : Same H H') (h : H p = none) : Same H (upd H' p o) := fun a u ha => (upd_ne (ne_of_none ha h)).trans (e a u ha)
theorem same_mutB {H H' : Hp} {p : Addr} (h : H p = none) {H1 : Hp} (e : Same H H1) (e2 : SameB p H1 H') : Same H H' := fun a u ha => e2 a u (ne_of_none ha h) (e a u ha)
theorem sameB_upd {H : Hp} {b : Addr} {o : HO} : SameB b H (upd H b o) := fun a u n e => (upd_ne n).trans e
theorem SameB.refl (b : Addr) (H : Hp) : SameB b H H := fun _ _ _ h => h
theorem SameB.trans {b : Addr} {H H1 H2 : Hp} (x : SameB b H H1) (y : SameB b H1 H2) : SameB b H H2 := fun a o n h => y a o n (x a o n h)
theorem toB {b : Addr} {H H' : Hp} (e : Same H H') : SameB b H H' := fun a o _ h => e a o h
theorem SameB.free {b : Addr} {H H' : Hp} (e : SameB b H H') {l : Addr} (n : l ≠ b) (h : H' l = none) : H l = none := by
  cases q : H l with
  | none => rfl
  | some o => rw [e l o n q] at h; cases h
theorem gs {H H' : Hp} {a : Addr} {o : HO} (e : Same H H') (h : H a = some o) : H' a = some o := e a o h
theorem gb {b : Addr} {H H' : Hp} {a : Addr} {o : HO} (e : SameB b H H') (n : a ≠ b) (h : H a = some o) : H' a = some o := e a o n h
theorem gu {b : Addr} {H : Hp} {a : Addr} {o u : HO} (n : a ≠ b) (h : H a = some o) : upd H b u a = some o := (upd_ne n).trans h
section
variable {K : PySem.W.Frag} {H H' : Hp} {a b : Addr} {xs : List V}
theorem ql (h : H a = some (.lst xs)) : SqL K H a xs := .inl (.inl h)
theorem qt (h : H a = some (.tup xs)) : SqT K H a xs := .inl (.inl h)
theorem gsl (e : Same H H') (h : SqL K H a xs) : SqL K H' a xs := e.seq h
theorem gst (e : Same H H') (h : SqT K H a xs) : SqT K H' a xs := by
  rcases h with (h | ⟨o, h⟩) | h
  · exact .inl (.inl (e _ _ h))
  · exact .inl (.inr ⟨o, e _ _ h⟩)
  · exact .inr h
theorem gbl (e : SameB b H H') (n : a ≠ b) (h : SqL K H a xs) : SqL K H' a xs := by
  rcases h with (h | ⟨o, h⟩) | h
  · exact .inl (.inl (e _ _ n h))
  · exact .inl (.inr ⟨o, e _ _ n h⟩)
  · exact .inr h
theorem gbt (e : SameB b H H') (n : a ≠ b) (h : SqT K H a xs) : SqT K H' a xs := by
  rcases h with (h | ⟨o, h⟩) | h
  · exact .inl (.inl (e _ _ n h))
  · exact .inl (.inr ⟨o, e _ _ n h⟩)
  · exact .inr h
mutual
theorem dps (e : Same H H') : ∀ (d : PyData) (v : V), Dp K H v d → Dp K H' v d
  | .none, _, h => by cases h; exact .non
  | .bool _, _, h => by cases h; exact .bl _
  | .int _, _, h => by cases h; exact .int _
  | .str _, _, h => by cases h; exact .str _
  | .list ds, _, h => by
    cases h with
    | lst hs ha => exact .lst (gsl e hs) (dpsAll e ds _ ha)
  | .tuple ds, _, h => by
    cases h with
    | tup hs ha => exact .tup (gst e hs) (dpsAll e ds _ ha)
  | .dict _, _, h => by cases h
theorem dpsAll (e : Same H H') : ∀ (ds : List PyData) (vs : List V), DpAll K H vs ds → DpAll K H' vs ds
  | [], _, h => by cases h; exact .nil
  | d :: ds, _, h => by
    cases h with
    | cons h1 h2 => exact .cons (dps e d _ h1) (dpsAll e ds _ h2)
end
end

/-! ### one step of a reading -/
section
variable {K : PySem.W.Frag} {σ : S} {H : Hp} {Q : VK} {D : Ends} {t u : TS} {ta tb te tc : TE} {x y v : V} {tr : TA} {i : Nat} {g : TG} {c c2 : TT}
theorem r_seq (h : t { D with nx := u D } σ H) : tSeq t u D σ H := h
theorem r_next (h : D.nx σ H) : tNext D σ H := h
theorem r_ret (h : te σ H D.rt) : tRet te D σ H := h
theorem r_retN (h : D.rt .non H) : tRetN D σ H := h
theorem r_asg (h : te σ H fun x H1 => g x σ H1 D.nx) : tAsg te g D σ H := h
theorem r_drop (h : te σ H fun _ H1 => D.nx σ H1) : tDrop te D σ H := h
theorem r_ifs (h : c σ H fun b H1 => if b = true then t D σ H1 else u D σ H1) : tIfS c t u D σ H := h
theorem r_brk (h : D.bk σ H) : tBreak D σ H := h
theorem r_cont (h : D.ct σ H) : tCont D σ H := h
theorem r_gname {P : S → Hp → Prop} (h : P (σ.set i (some v)) H) : gName i v σ H P := h
theorem r_gtup {n : Nat} {gs : TGs} {a : Addr} {xs : List V} {P : S → Hp → Prop} (h1 : SqT K H a xs) (h2 : xs.length = n) (h : gs xs σ H P) : gTup K n gs (.ref a) σ H P := ⟨a, xs, rfl, h1, h2, h⟩
theorem r_gcons {gs : TGs} {xs : List V} {P : S → Hp → Prop} (h : g x σ H fun σ' H' => gs xs σ' H' P) : gCons g gs (x :: xs) σ H P := ⟨x, xs, rfl, h⟩
theorem r_gnil {P : S → Hp → Prop} (h : P σ H) : gNil [] σ H P := ⟨rfl, h⟩
theorem r_gsub {ts : TSet} {P : S → Hp → Prop} (h : ta σ H fun o H1 => tb σ H1 fun i H2 => ts o i v H2 fun H3 => P σ H3) : gSub ta tb ts v σ H P := h
theorem r_setL {p : Addr} {xs : List V} {k : Int} {j : Nat} {P : Hp → Prop} (h1 : H p = some (.lst xs)) (h2 : ixN xs.length k = some j) (h : P (upd H p (.lst (xs.set j v)))) : rSetL (.ref p) (.int k) v H P := ⟨p, xs, k, j, rfl, rfl, h1, h2, h⟩
theorem r_aug {ti : TIp} (hx : σ[i]? = some (some x)) (h : te σ H fun y H1 => ti x y H1 fun z H2 => D.nx (σ.set i (some z)) H2) : tAug i te ti D σ H := ⟨x, hx, h⟩
theorem r_par {j : Nat} (h : tr σ H fun vs H1 => ∃ v w, vs = [v, w] ∧ D.nx ((σ.set i (some v)).set j (some w)) H1) : tPar i j tr D σ H := h
theorem r_two {P : V → V → Prop} (h : P x y) : ∃ v w, [x, y] = [v, w] ∧ P v w := ⟨x, y, rfl, h⟩
theorem r_var (h1 : σ[i]? = some (some v)) (h : Q v H) : tVar i σ H Q := ⟨v, h1, h⟩
theorem r_c (h : Q v H) : tC v σ H Q := h
theorem r_op {r : R2} (h : ta σ H fun x H1 => tb σ H1 fun y H2 => r x y H2 Q) : tOp r ta tb σ H Q := h
theorem r_un {r : V → Hp → VK → Prop} (h : ta σ H fun x H1 => r x H1 Q) : tUn r ta σ H Q := h
theorem r_if (h : c σ H fun b H1 => if b = true then ta σ H1 Q else tb σ H1 Q) : tIf c ta tb σ H Q := h
theorem r_test {P : Bool → Hp → Prop} (h : te σ H fun x H' => ∃ k, x = .bl k ∧ P k H') : tTest te σ H P := h
theorem r_b {P : Bool → Hp → Prop} (h : te σ H fun x H' => ∃ k, x = .bl k ∧ P k H') : tB te σ H P := h
theorem r_bl {b : Bool} {P : Bool → Prop} (h : P b) : ∃ k, V.bl b = V.bl k ∧ P k := ⟨b, rfl, h⟩
theorem r_and {P : Bool → Hp → Prop} (h : c σ H fun b H1 => if b = true then c2 σ H1 P else P false H1) : tAnd c c2 σ H P := h
theorem r_or {P : Bool → Hp → Prop} (h : c σ H fun b H1 => if b = true then P true H1 else c2 σ H1 P) : tOr c c2 σ H P := h
theorem r_not {P : Bool → Hp → Prop} (h : c σ H fun b H1 => P (!b) H1) : tNot c σ H P := h
theorem r_andV (h : ta σ H fun x H1 => ∃ c, x = .bl c ∧ if c = true then tb σ H1 Q else Q (.bl false) H1) : tAndV ta tb σ H Q := h
theorem r_orV (h : ta σ H fun x H1 => ∃ c, x = .bl c ∧ if c = true then Q (.bl true) H1 else tb σ H1 Q) : tOrV ta tb σ H Q := h
theorem r_notV (h : ta σ H fun x H1 => ∃ c, x = .bl c ∧ Q (.bl (!c)) H1) : tNotV ta σ H Q := h
theorem r_chain {r r' : R2} (h : ta σ H fun x H1 => tb σ H1 fun y H2 => r x y H2 fun z H3 => ∃ k, z = .bl k ∧ (if k = true then tc σ H3 fun w' H4 => r' y w' H4 Q else Q (.bl false) H3)) : tChain r r' ta tb tc σ H Q := h
theorem r_nil {P : List V → Hp → Prop} (h : P [] H) : tNil σ H P := h
theorem r_cons {P : List V → Hp → Prop} (h : ta σ H fun x H1 => tr σ H1 fun xs H2 => P (x :: xs) H2) : tCons ta tr σ H P := h

theorem same_of {H H2 : Hp} {p : Addr} {o : HO} (h : upd H p o = H2) (n : H p = none) : Same H H2 := h ▸ same_new n
theorem at_of {H H2 : Hp} {p : Addr} {o : HO} (h : upd H p o = H2) : H2 p = some o := h ▸ upd_same
theorem sameB_of {H H2 : Hp} {p : Addr} {o : HO} (h : upd H p o = H2) : SameB p H H2 := h ▸ sameB_upd
theorem r_tup (h : tr σ H fun xs H1 => xs.length ≤ sizeLine ∧ ∀ p, H1 p = none → Q (.ref p) (upd H1 p (.tup xs))) : tTup tr σ H Q := h
theorem r_lst (h : tr σ H fun xs H1 => xs.length ≤ sizeLine ∧ ∀ p, H1 p = none → Q (.ref p) (upd H1 p (.lst xs))) : tLst tr σ H Q := h
theorem r_call {sp : Sp} {dvs : List V} {E : XK} (h : tr σ H fun vs H1 => sp (vs ++ dvs) H1 Q E) : tCall sp dvs E tr σ H Q := h
theorem r_cb {r : List V → Hp → VK → Prop} (h : tr σ H fun vs H1 => r vs H1 Q) : tCB r tr σ H Q := h
theorem r_I0 {g : Int → Int → V} {i j : Int} (h : Q (g i j) H) : rI0 g (.int i) (.int j) H Q := ⟨i, j, rfl, rfl, h⟩
theorem r_I {C : Int → Int → Prop} {g : Int → Int → V} {i j : Int} (hc : C i j) (h : Q (g i j) H) : rI C g (.int i) (.int j) H Q := ⟨i, j, rfl, rfl, hc, h⟩
theorem r_eqI {i j : Int} (h : Q (.bl (decide (i = j))) H) : rEq (.int i) (.int j) H Q := ⟨rfl, by
  have e : decide (V.int i = V.int j) = decide (i = j) := by simp
  rw [e]; exact h⟩
theorem r_neI {i j : Int} (h : Q (.bl (!decide (i = j))) H) : rNe (.int i) (.int j) H Q := ⟨rfl, by
  have e : decide (V.int i = V.int j) = decide (i = j) := by simp
  rw [e]; exact h⟩
theorem r_eqS {i j : Str} (h : Q (.bl (decide (i = j))) H) : rEq (.str i) (.str j) H Q := ⟨rfl, by
  have e : decide (V.str i = V.str j) = decide (i = j) := by simp
  rw [e]; exact h⟩
theorem r_neS {i j : Str} (h : Q (.bl (!decide (i = j))) H) : rNe (.str i) (.str j) H Q := ⟨rfl, by
  have e : decide (V.str i = V.str j) = decide (i = j) := by simp
  rw [e]; exact h⟩
theorem r_eqB {i j : Bool} (h : Q (.bl (decide (i = j))) H) : rEq (.bl i) (.bl j) H Q := ⟨rfl, by
  have e : decide (V.bl i = V.bl j) = decide (i = j) := by simp
  rw [e]; exact h⟩
theorem r_ixL {p : Addr} {xs : List V} {i : Int} (h1 : SqL K H p xs) (h2 : atI xs i = some v) (h : Q v H) : rIx K (.ref p) (.int i) H Q := .inl ⟨p, xs, i, v, rfl, rfl, h1, h2, h⟩
theorem r_ixT {p : Addr} {xs : List V} {i : Int} (h1 : SqT K H p xs) (h2 : atI xs i = some v) (h : Q v H) : rIx K (.ref p) (.int i) H Q := .inr (.inl ⟨p, xs, i, v, rfl, rfl, h1, h2, h⟩)
theorem r_ixS {z : Str} {i : Int} {c : Nat} (h1 : z.length ≤ sizeLine) (h2 : atI z.cps.toList i = some c) (h : Q (.str ⟨#[c]⟩) H) : rIx K (.str z) (.int i) H Q := .inr (.inr ⟨z, i, c, rfl, rfl, h1, h2, h⟩)
theorem r_iteD {p A B : Prop} [Decidable p] (h1 : p → A) (h2 : ¬p → B) : if decide p = true then A else B := by
  by_cases q : p
  · rw [if_pos (decide_eq_true q)]; exact h1 q
  · rw [if_neg (by simpa using q)]; exact h2 q
theorem r_iteND {p A B : Prop} [Decidable p] (h1 : ¬p → A) (h2 : p → B) : if (!decide p) = true then A else B := by
  by_cases q : p
  · rw [if_neg (by simpa using q)]; exact h2 q
  · rw [if_pos (by simpa using q)]; exact h1 q
theorem r_iteB {b : Bool} {A B : Prop} (h1 : b = true → A) (h2 : b = false → B) : if b = true then A else B := by
  cases b
  · rw [if_neg Bool.false_ne_true]; exact h2 rfl
  · rw [if_pos rfl]; exact h1 rfl
theorem r_iteT {A B : Prop} (h : A) : if true = true then A else B := by rw [if_pos rfl]; exact h
theorem r_iteF {A B : Prop} (h : B) : if false = true then A else B := by rw [if_neg Bool.false_ne_true]; exact h
end
end Px

namespace Px
open PySem PySem.Spec PyProof.Rows L2

/-! ### operators by any kind of value -/
abbrev rAddI : R2 := rI0 fun i j => .int (i + j)
abbrev rSubI : R2 := rI0 fun i j => .int (i - j)
abbrev rLtI : R2 := rI0 fun i j => .bl (decide (i < j))
abbrev rLeI : R2 := rI0 fun i j => .bl (decide (i ≤ j))
abbrev rGtI : R2 := rI0 fun i j => .bl (decide (j < i))
abbrev rGeI : R2 := rI0 fun i j => .bl (decide (j ≤ i))
abbrev rFdivI : R2 := rI CDivN fun i j => .int (i.fdiv j)
abbrev rModI : R2 := rI (fun _ j => j ≠ 0) fun i j => .int (i.fmod j)
abbrev rPowI : R2 := rI CPow fun i j => .int (i ^ j.toNat)
abbrev rMulI : R2 := rI CMul fun i j => .int (i * j)
abbrev rNegI : V → Hp → VK → Prop := rU fun i => .int (-i)
def rAddS : R2 := fun x y H Q => ∃ i j, x = .str i ∧ y = .str j ∧ i.length + j.length ≤ sizeLine ∧ Q (.str (i ++ j)) H
def rAddU (K : PySem.W.Frag) : R2 := fun x y H Q => rAddI x y H Q ∨ rAddS x y H Q ∨ rCat x y H Q ∨ rCatA K x y H Q
def rMulU (K : PySem.W.Frag) : R2 := fun x y H Q => rMulI x y H Q ∨ rRep x y H Q
def rEqU (K : PySem.W.Frag) : R2 := fun x y H Q => rEq x y H Q ∨ rEqD K x y H Q
def rNeU (K : PySem.W.Frag) : R2 := fun x y H Q => rNe x y H Q ∨ rNeD K x y H Q
def rIsNN : R2 := fun x y H Q => y = .non ∧ Q (.bl (decide (x = .non))) H
def rNotNN : R2 := fun x y H Q => y = .non ∧ Q (.bl (!decide (x = .non))) H
def rInU (K : PySem.W.Frag) : R2 := fun x y H Q => rInS x y H Q ∨ rIn K false x y H Q
def rNinU (K : PySem.W.Frag) : R2 := fun x y H Q => rNotInS x y H Q ∨ rIn K true x y H Q
def rSlU (K : PySem.W.Frag) : V → Option Int → Option Int → Hp → VK → Prop := fun x lo hi H Q => rSlL K x lo hi H Q ∨ rSlS x lo hi H Q ∨ rSlA K x lo hi H Q
section
variable {X : Cx}
theorem op_addU : OpR X (binaryOp .Add) (rAddU X.K) := OpR.or op_add (OpR.or op_add_str (OpR.or op_cat op_catA))
theorem op_mulU : OpR X (binaryOp .Mult) (rMulU X.K) := OpR.or op_mul op_rep
theorem op_eqU (hu : X.A.units + 64 < cLine) : OpR X (compareOp .Eq) (rEqU X.K) := OpR.or op_eq (op_eqD hu)
theorem op_neU (hu : X.A.units + 64 < cLine) : OpR X (compareOp .NotEq) (rNeU X.K) := OpR.or op_ne (op_neD hu)
theorem op_inU : OpR X (compareOp .In) (rInU X.K) := OpR.or op_inS op_in_seq
theorem op_ninU : OpR X (compareOp .NotIn) (rNinU X.K) := OpR.or op_notInS op_notIn_seq
theorem sl_U : SlR X (rSlU X.K) := SlR.or sl_list (SlR.or sl_str sl_tupA)
theorem hu64 {k : Nat} {A : Around} (hr : Room k A) : A.units + 64 < cLine := hr.units

/-! ### three comparisons in a chain -/
def tChain3 (r r' r'' : R2) (ta tb tc td : TE) : TE := fun σ H Q => ta σ H fun x H1 => tb σ H1 fun y H2 => r x y H2 fun z H3 => ∃ k, z = .bl k ∧
  (if k = true then tc σ H3 fun y' H4 => r' y y' H4 fun z' H5 => ∃ k', z' = .bl k' ∧ (if k' = true then td σ H5 fun w' H6 => r'' y' w' H6 Q else Q (.bl false) H5) else Q (.bl false) H3)
theorem pt_chain3 {op op' op'' : CmpOp} {r r' r'' : R2} {a b c d : Expr} {ta tb tc td : TE} {pos : Pos} (ho : OpR X (compareOp op) r) (ho' : OpR X (compareOp op') r') (ho'' : OpR X (compareOp op'') r'')
    (ha : PE X a ta) (hb : PE X b tb) (hc : PE X c tc) (hd : PE X d td)
    (hm : lastMarks [op, op', op''] [b, c, d] = false := by with_unfolding_all rfl) : PT X (.Compare a [op, op', op''] [b, c, d] pos) (tTest (tChain3 r r' r'' ta tb tc td)) := by
  refine ⟨fun pins s σ H Q I h => ?_⟩
  refine isTrue_chain (thn (ha.run pins s σ H _ I h) fun v s1 ⟨x, H1, I1, r1, q1⟩ => test_link (thn (hb.run pins s1 σ H1 _ I1 q1) fun u s2 ⟨y, H2, I2, r2, q2⟩ =>
    thn (ho pins s2 σ H2 x y v u _ I2 r1 r2 q2) fun d1 s3 ⟨z, H3, I3, r3, k, e, q3⟩ => ?_)) hm
  subst e
  cases r3
  refine wpAny_truthy_bool ?_
  cases k with
  | false =>
    obtain ⟨k', e', q'⟩ := q3
    cases e'
    exact ite_ff ⟨H3, I3, q'⟩
  | true =>
    refine ite_tt (test_link (thn (hc.run pins s3 σ H3 _ I3 q3) fun u4 s4 ⟨y4, H4, I4, r4, q4⟩ =>
      thn (ho' pins s4 σ H4 y y4 u u4 _ I4 r2 r4 q4) fun d2 s5 ⟨z5, H5, I5, r5, k5, e5, q5⟩ => ?_))
    subst e5
    cases r5
    refine wpAny_truthy_bool ?_
    cases k5 with
    | false =>
      obtain ⟨k', e', q'⟩ := q5
      cases e'
      exact ite_ff ⟨H5, I5, q'⟩
    | true =>
      refine ite_tt (test_last (thn (hd.run pins s5 σ H5 _ I5 q5) fun w6 s6 ⟨z6, H6, I6, r6, q6⟩ => thn (ho'' pins s6 σ H6 y4 z6 u4 w6 _ I6 r4 r6 q6) fun d' s7 ⟨z7, H7, I7, r7, k7, e7, q7⟩ => ?_))
      subst e7
      cases r7
      exact wpAny_truthy_bool ⟨H7, I7, q7⟩

/-! ### walks over a list, a tuple, a text -/
theorem PI.or {tg e : Expr} {w1 w2 : TI} (h1 : PI X tg e w1) (h2 : PI X tg e w2) : PI X tg e (fun σ H R => w1 σ H R ∨ w2 σ H R) := by
  refine ⟨fun pins s σ H R I h => ?_⟩
  rcases h with h | h
  · exact h1.run pins s σ H R I h
  · exact h2.run pins s σ H R I h
def iSeqU (K : PySem.W.Frag) (te : TE) : TI := fun σ H R => iList K te σ H R ∨ iTup K te σ H R ∨ iStr te σ H R
theorem pi_seqU {tg e : Expr} {te : TE} (he : PE X e te) : PI X tg e (iSeqU X.K te) := PI.or (pi_list he) (PI.or (pi_tup he) (pi_str he))
end

/-- an iterator that gives new pairs, by the library's Goes -/
def ItP (n : Nat) (f g : Nat → Option V) : It :=
  ⟨fun i _ => i < n, fun i H v H' => ∃ T x y, v = .ref T ∧ H T = none ∧ H' = upd H T (.tup [x, y]) ∧ f i = some x ∧ g i = some y, fun i _ => i = n⟩
theorem turn_pairs {P : Program} {w : World} {K : PySem.W.Frag} {tg : Expr} {it : Addr} {fp wr : List Addr} {n : Nat} {Y : Nat → Heap → Value → Heap → Prop} {St : Nat → Heap → Prop} {f g : Nat → Option V}
    (W : ∀ A : Around, A.handled = none → GoesN P w A tg it fp wr n Y St)
    (hY : ∀ i h v h', Y i h v h' → ∃ T a b x y, v = .ref T ∧ h.objs.size ≤ T ∧ h'.IsTuple T #[a, b] ∧ f i = some x ∧ g i = some y ∧ RelV x a ∧ RelV y b)
    (hself : ∀ (A : Around) (i : Nat) (s : Shared) (Q : Value → Shared → Prop) (E : Value → Shared → Prop), St i s.heap → Q (.ref it) s → wpAny (model P w) A (pyIter (.ref it)) Q E s)
    (mem : it ∈ fp) (obj : ∀ i h, St i h → ∀ b ∈ fp, ∃ o, h.get? b = some o ∧ ∀ v, o.data ≠ .cell v) : Turn P w K tg (ItP n f g) fp it St where
  mem := mem
  obj := obj
  keep := (W { handled := none } rfl).frame
  item := by
    intro X hP hw hK hc i pins s σ H E I hf st hi
    subst hP hw hK
    have G := W X.A (I.ok.hd hc)
    refine G.goes i s _ E hi st fun v h' tk hy st' hk _ => ?_
    obtain ⟨T, a, b, x, y, rfl, hT, ht, e1, e2, ra, rb⟩ := hY _ _ _ _ hy
    have hn : H T = none := I.hok.fresh hT
    have new : ObjOk X.prog X.w (upd H T (.tup [x, y])) h' T (.tup [x, y]) := ⟨by show 2 ≤ sizeLine; decide, [a, b], .cons ra (.cons rb .nil), ht⟩
    refine ⟨.ref T, _, I.turnedNew (ch := fp) (fun b o hb q => hk b o (fun z => hb (G.sub b z)) q) hf hT new, rfl, ⟨T, x, y, rfl, hn, rfl, e1, e2⟩, st', fun c hcm => ?_⟩
    have hlt : c < s.heap.objs.size := by
      obtain ⟨o, ho, _⟩ := obj i s.heap st c hcm
      exact Heap.lt_size ho
    rw [upd_ne (Nat.ne_of_lt (Nat.lt_of_lt_of_le hlt hT))]
    exact (hf c hcm).1
  done := by
    intro X hP hw hK hc i pins s σ H E I hf st hi
    subst hP hw hK
    have hi' : i = n := hi
    subst hi'
    have G := W X.A (I.ok.hd hc)
    exact G.stops s _ E st fun h' tk hk _ => I.turnedL (ch := fp) (fun b o hb q => hk b o (fun z => hb (G.sub b z)) q) hf
  self := hself
theorem walk_pairs {n : Nat} {f g : Nat → Option V} : Walk (ItP n f g) n (fun _ => True) (YPair f g) :=
  ⟨fun _ _ hi _ => hi, fun _ _ => rfl, fun _ _ _ _ _ _ y => y⟩

/-! ### zip and enumerate over texts -/
def sgn (z : Str) (i : Nat) : Option V := (z.cps[i]?).map fun c => .str ⟨#[c]⟩
theorem sgn_of {z : Str} {i c : Nat} {u : Tok} {v : Value} (h : z.cps[i]? = some c) (e : v = .str ⟨#[c]⟩ u) : sgn z i = some (.str ⟨#[c]⟩) ∧ RelV (.str ⟨#[c]⟩) v := by
  unfold sgn
  rw [h]
  exact ⟨rfl, u, e⟩
theorem striter_obj {h : Heap} {b : Addr} {ty : String} {z : Str} {t : Tok} {i : Nat} (st : h.IsStrIter b ty z t i) : ∃ o, h.get? b = some o ∧ ∀ v, o.data ≠ .cell v := by
  obtain ⟨o, e, _, d⟩ := st
  exact ⟨o, e, fun v q => by rw [d] at q; cases q⟩
def iZipS (ta : TA) : TI := fun σ H R => ta σ H fun vs H1 => ∃ y z : Str, vs = [.str y, .str z] ∧ R (ItP (min y.cps.size z.cps.size) (sgn y) (sgn z)) H1
def iEnumS (ta : TA) : TI := fun σ H R => ta σ H fun vs H1 => ∃ z : Str, vs = [.str z] ∧ R (ItP z.cps.size (fun i => some (.int (i : Nat))) (sgn z)) H1
section
variable {X : Cx}
theorem pi_zipS {e e2 : Expr} {ta : TA} {p pos tpos : Pos} {elts : List Expr} {kk : Nat} (hg : Gl X "zip") (hm : X.mg "zip" = none) (ha : PA X [e, e2] ta)
    (hs : starEach [e, e2] X.env = (false, eval e X.env) :: starEach [e2] X.env := by rfl) (hpl : (backTo pos (starEach [e2] X.env)).any (·.1) = false := by rfl) :
    PI X (.Tuple elts kk tpos) (.Call (.Name "zip" p) [e, e2] [] pos) (iZipS ta) := by
  refine ⟨fun pins s σ H R I h => ?_⟩
  refine Call_ (ld_blt I hg hm PyProof.Rows.boot_zip (PyProof.Rows.callWith_type1 (thn (ha.run pos pins s σ H _ I h) fun us s1 ⟨vs, H1, I1, r1, q1⟩ => ?_) hs hpl))
  obtain ⟨y, z, rfl, q⟩ := q1
  cases r1 with
  | cons r rr =>
    cases rr with
    | cons r' rr =>
      cases rr
      obtain ⟨t, rfl⟩ := r
      obtain ⟨t', rfl⟩ := r'
      refine zip_begins2 (begins_text y t) (begins_text z t') trivial trivial fun h' hz hTI hTO h1 h2 hsz hk => wpAny_pyIter_zip hz ?_
      have I2 : Inv X pins σ H1 { s1 with heap := h' } := I1.kept (t' := s1.toks) hk
      have St0 : ∀ {j : Addr} {x : Str} {u : Tok}, h'.get? j = some { cls := .type (strIterType x), data := .fields #[.str x u, .int 0 0] } → h'.IsStrIter j (strIterType x) x u 0 := fun e => ⟨_, e, rfl, rfl⟩
      refine ⟨s1.heap.objs.size + 4, (s1.heap.objs.size + 4) :: (s1.heap.objs.size + 2) :: (s1.heap.objs.size + 3) :: ([s1.heap.objs.size] ++ [s1.heap.objs.size + 1]),
        fun i h => IsZip h (s1.heap.objs.size + 4) (s1.heap.objs.size + 2) (s1.heap.objs.size + 3) .none ∧ IsTupOf2 h (s1.heap.objs.size + 2) (.ref s1.heap.objs.size) (.ref (s1.heap.objs.size + 1)) ∧ (∃ a1 a2, IsTupOf2 h (s1.heap.objs.size + 3) a1 a2) ∧
          h.IsStrIter s1.heap.objs.size (strIterType y) y t i ∧ h.IsStrIter (s1.heap.objs.size + 1) (strIterType z) z t' i, _, H1, rfl, I2,
        turn_pairs (n := min y.cps.size z.cps.size) (fun A hA => GoesN.zip2 (zip_sep2 (fp1 := []) (fp2 := []) (fun _ hb => absurd hb List.not_mem_nil) fun _ hb => absurd hb List.not_mem_nil) (Draws.text (A := A.in1) hA _ y t) (Draws.text (A := A.in1) hA _ z t')) ?hY (fun A i s Q E st h => wpAny_pyIter_zip st.1 h) (by simp) ?obj,
        ⟨hz, hTI, ⟨_, _, hTO⟩, St0 h1, St0 h2⟩, fun b hb => ?_, q⟩
      case hY =>
        rintro i h v h' ⟨T, a, b, rfl, hT, ⟨c, u, hc, ea⟩, ⟨c', u', hc', eb⟩, ht⟩
        obtain ⟨e1, r1⟩ := sgn_of hc ea
        obtain ⟨e2, r2⟩ := sgn_of hc' eb
        exact ⟨T, a, b, _, _, rfl, hT, ht, e1, e2, r1, r2⟩
      case obj =>
        rintro i h ⟨hz, hTI, ⟨a1, a2, hTO⟩, s1', s2'⟩ b hb
        have e' : b = s1.heap.objs.size + 4 ∨ b = s1.heap.objs.size + 2 ∨ b = s1.heap.objs.size + 3 ∨ b = s1.heap.objs.size ∨ b = s1.heap.objs.size + 1 := by simpa using hb
        rcases e' with q | q | q | q | q
        · rw [q]; exact ⟨_, hz, fun v z => nomatch z⟩
        · rw [q]; exact ⟨_, hTI, fun v z => nomatch z⟩
        · rw [q]; exact ⟨_, hTO, fun v z => nomatch z⟩
        · rw [q]; exact striter_obj s1'
        · rw [q]; exact striter_obj s2'
      · have e' : b = s1.heap.objs.size + 4 ∨ b = s1.heap.objs.size + 2 ∨ b = s1.heap.objs.size + 3 ∨ b = s1.heap.objs.size ∨ b = s1.heap.objs.size + 1 := by simpa using hb
        have hle : s1.heap.objs.size ≤ b := by
          rcases e' with z | z | z | z | z
          · rw [z]; exact Nat.le_add_right _ _
          · rw [z]; exact Nat.le_add_right _ _
          · rw [z]; exact Nat.le_add_right _ _
          · rw [z]; exact Nat.le_refl _
          · rw [z]; exact Nat.le_add_right _ _
        exact I1.fpOk hle (I1.hok.fresh hle)
theorem pi_enumS {e : Expr} {ta : TA} {p pos tpos : Pos} {elts : List Expr} {kk : Nat} (hg : Gl X "enumerate") (hm : X.mg "enumerate" = none) (ha : PA X [e] ta) (hs : starEach [e] X.env = [(false, eval e X.env)] := by rfl) :
    PI X (.Tuple elts kk tpos) (.Call (.Name "enumerate" p) [e] [] pos) (iEnumS ta) := by
  refine ⟨fun pins s σ H R I h => ?_⟩
  refine Call_ (ld_blt I hg hm boot_enumerate (PyProof.Rows.callWith_type1 (thn (ha.run pos pins s σ H _ I h) fun us s1 ⟨vs, H1, I1, r1, q1⟩ => ?_) hs rfl))
  obtain ⟨z, rfl, q⟩ := q1
  cases r1 with
  | cons r rr =>
    cases rr
    obtain ⟨t, rfl⟩ := r
    refine call_enumerate_str fun h' he hit hsz hk => wpAny_pyIter_enum he ?_
    have I2 : Inv X pins σ H1 { s1 with heap := h' } := I1.kept (t' := s1.toks) hk
    have hne : s1.heap.objs.size + 1 ∉ [s1.heap.objs.size] := by
      intro hm
      have := List.mem_singleton.mp hm
      exact absurd this (Nat.succ_ne_self _)
    refine ⟨s1.heap.objs.size + 1, (s1.heap.objs.size + 1) :: [s1.heap.objs.size],
      fun i h => (∃ old, IsEnum h (s1.heap.objs.size + 1) s1.heap.objs.size (0 + (i : Int)) old) ∧ h.IsStrIter s1.heap.objs.size (strIterType z) z t i, _, H1, rfl, I2,
      turn_pairs (n := z.cps.size) (fun A hA => GoesN.enumFrom 0 (Draws.text (A := A.in1) hA s1.heap.objs.size z t) (s1.heap.objs.size + 1) (Nat.succ_ne_self _) hne (by simp)) ?hY (fun A i s Q E st h => wpAny_pyIter_enum st.1.choose_spec h) (by simp) ?obj,
      ⟨⟨.none, he⟩, hit⟩, fun b hb => ?_, q⟩
    case hY =>
      rintro i h v h' ⟨T, u, x, rfl, hT, ⟨c, u', hc, ea⟩, ht⟩
      obtain ⟨e1, r1⟩ := sgn_of hc ea
      exact ⟨T, _, x, .int (i : Nat), _, rfl, hT, ht, rfl, e1, ⟨u, by simp⟩, r1⟩
    case obj =>
      rintro i h ⟨⟨old, he⟩, s1'⟩ b hb
      have e' : b = s1.heap.objs.size + 1 ∨ b = s1.heap.objs.size := by simpa using hb
      rcases e' with q | q
      · rw [q]; exact ⟨_, he, fun v z => nomatch z⟩
      · rw [q]; exact striter_obj s1'
    · have e' : b = s1.heap.objs.size + 1 ∨ b = s1.heap.objs.size := by simpa using hb
      have hle : s1.heap.objs.size ≤ b := by
        rcases e' with z | z
        · rw [z]; exact Nat.le_add_right _ _
        · rw [z]; exact Nat.le_refl _
      exact I1.fpOk hle (I1.hok.fresh hle)
def iZipU (K : PySem.W.Frag) (ta : TA) : TI := fun σ H R => iZip K ta σ H R ∨ iZipS ta σ H R
def iEnumU (K : PySem.W.Frag) (ta : TA) : TI := fun σ H R => iEnum K ta σ H R ∨ iEnumS ta σ H R
theorem pi_zipU {e e2 : Expr} {ta : TA} {p pos tpos : Pos} {elts : List Expr} {kk : Nat} (hg : Gl X "zip") (hm : X.mg "zip" = none) (ha : PA X [e, e2] ta)
    (hs : starEach [e, e2] X.env = (false, eval e X.env) :: starEach [e2] X.env := by rfl) (hpl : (backTo pos (starEach [e2] X.env)).any (·.1) = false := by rfl) :
    PI X (.Tuple elts kk tpos) (.Call (.Name "zip" p) [e, e2] [] pos) (iZipU X.K ta) := PI.or (pi_zip hg hm ha hs hpl) (pi_zipS hg hm ha hs hpl)
theorem pi_enumU {e : Expr} {ta : TA} {p pos tpos : Pos} {elts : List Expr} {kk : Nat} (hg : Gl X "enumerate") (hm : X.mg "enumerate" = none) (ha : PA X [e] ta) (hs : starEach [e] X.env = [(false, eval e X.env)] := by rfl) :
    PI X (.Tuple elts kk tpos) (.Call (.Name "enumerate" p) [e] [] pos) (iEnumU X.K ta) := PI.or (pi_enum hg hm ha hs) (pi_enumS hg hm ha hs)
end
end Px

namespace Px
open PySem PySem.Spec PyProof.Rows L2
section
variable {X : Cx}
theorem PE.or {e : Expr} {t1 t2 : TE} (h1 : PE X e t1) (h2 : PE X e t2) : PE X e (fun σ H Q => t1 σ H Q ∨ t2 σ H Q) := by
  refine ⟨fun pins s σ H Q I h => ?_⟩
  rcases h with h | h
  · exact h1.run pins s σ H Q I h
  · exact h2.run pins s σ H Q I h
/-! ### a text from behind -/
def revS (z : Str) : Str := ⟨z.cps.toList.reverse.toArray⟩
theorem rev_picked (z : Str) (t : Tok) (u : Tok) : sliceMade z t none none (some (-1, u)) = .str (revS z) := by
  unfold sliceMade slicePicked
  have h1 : ((((some ((-1 : Int), u)).map (·.1)).getD 1 == 1) && ((Builtin.Str.strSliceIndices (Option.map (·.1) (none : Option (Int × Tok))) (Option.map (·.1) (none : Option (Int × Tok))) (((some ((-1 : Int), u)).map (·.1)).getD 1) z.length).length == z.length)) = false := by
    rw [Bool.and_eq_false_iff]
    left
    rfl
  rw [h1, if_neg Bool.false_ne_true]
  have h2 : Builtin.Str.strSliceIndices (Option.map (·.1) (none : Option (Int × Tok))) (Option.map (·.1) (none : Option (Int × Tok))) (((some ((-1 : Int), u)).map (·.1)).getD 1) z.length = sliceRange ((z.length : Int) - 1) (-1) (-1) := rfl
  rw [h2, PySem.W.krv_sliceRange, PySem.W.krv_range, List.filterMap_reverse]
  have h3 : List.filterMap (fun x => z.cps[x]?) (List.range z.length) = z.cps.toList := PySem.W.krv_all z.cps
  rw [h3]
  rfl
def tRevS (te : TE) : TE := fun σ H Q => te σ H fun x H1 => ∃ z, x = .str z ∧ z.length ≤ sizeLine ∧ Q (.str (revS z)) H1
theorem pe_revS {e : Expr} {te : TE} {k : Nat} {p1 p2 p3 pos : Pos} (he : PE X e te) : PE X (.Subscript e (.Slice none none (some (.UnaryOp .USub (.Constant (.int 1) k p1) p2)) p3) pos) (tRevS te) := by
  refine ⟨fun pins s σ H Q I h => ?_⟩
  refine Subscript_ (thn (he.run pins s σ H _ I h) fun v s1 ⟨x, H1, I1, r1, q1⟩ => ?_)
  obtain ⟨z, rfl, hz, q⟩ := q1
  obtain ⟨t, rfl⟩ := r1
  have hst : PO X (some (.UnaryOp .USub (.Constant (.int 1) k p1) p2)) (tPart (tUn rNegI (tC (.int 1)))) := po_some (pe_un un_neg pe_int)
  refine wpAny_Slice (thn (po_none.run pins s1 σ H1 (fun o G => o = none ∧ G = H1) I1 ⟨rfl, rfl⟩) fun vl s2 ⟨l, H2, I2, pl, el, e2⟩ => ?_)
  subst el e2
  refine thn (po_none.run pins s2 σ H2 (fun o G => o = none ∧ G = H2) I2 ⟨rfl, rfl⟩) fun vu s3 ⟨u, H3, I3, pu, eu, e3⟩ => ?_
  subst eu e3
  refine thn (hst.run pins s3 σ H3 (fun o G => o = some (-1) ∧ G = H3) I3 ⟨1, rfl, -1, rfl, rfl, rfl⟩) fun vs s4 ⟨o, H4, I4, ps, eo, e4⟩ => ?_
  subst eo e4
  have I5 : Inv X pins σ H4 { s4 with heap := s4.heap.push { cls := .type "slice", data := .fields #[vl, vu, vs] } } := I4.kept (t' := s4.toks) fun b ob q => Heap.get?_push_of_some _ q
  obtain ⟨l, rfl, e1⟩ := IsPart.raw pl
  obtain ⟨u, rfl, e2⟩ := IsPart.raw pu
  obtain ⟨w3, rfl, e3⟩ := IsPart.raw ps
  cases l with
  | some p => cases e1
  | none =>
    cases u with
    | some p => cases e2
    | none =>
      cases w3 with
      | none => cases e3
      | some p =>
        obtain ⟨i, tk⟩ := p
        have hi : i = (-1 : Int) := Option.some.inj e3
        subst hi
        refine tail_any (ops := [.ref s4.heap.objs.size, .str z t]) (typeIs_str _ _ _) (F.slot_str_getitem.lookup) ?_ (by with_unfolding_all rfl)
        refine wpAny_getItem_str_slice (l := none) (u := none) (st := some (-1, tk)) ⟨_, Heap.get?_push_size _ rfl, rfl, rfl⟩ rfl ?_
        rw [rev_picked]
        refine ⟨?_, .str _, H4, I5.tok _, ⟨_, rfl⟩, q⟩
        have e : (revS z).length = z.length := by
          unfold revS
          show (List.toArray z.cps.toList.reverse).size = z.cps.size
          simp
        omega
def tRevU (K : PySem.W.Frag) (te : TE) : TE := fun σ H Q => tRevL K te σ H Q ∨ tRevS te σ H Q
theorem pe_rev {e : Expr} {te : TE} {k : Nat} {p1 p2 p3 pos : Pos} (he : PE X e te) : PE X (.Subscript e (.Slice none none (some (.UnaryOp .USub (.Constant (.int 1) k p1) p2)) p3) pos) (tRevU X.K te) := PE.or (pe_revL he) (pe_revS he)

/-! ### repr -/
def rRepr (K : PySem.W.Frag) : List V → Hp → VK → Prop := fun xs H Q => ∃ x d, xs = [x] ∧ Dp K H x d ∧ d.showable = true ∧ d.shown.length ≤ sizeLine ∧ d.depth ≤ 60 ∧ Q (.str d.shown) H
mutual
theorem dp_noDict {K : PySem.W.Frag} {H : Hp} : ∀ (d : PyData) (v : V), Dp K H v d → d.hasDict = false
  | .none, _, _ => by simp only [PyData.hasDict]
  | .bool _, _, _ => by simp only [PyData.hasDict]
  | .int _, _, _ => by simp only [PyData.hasDict]
  | .str _, _, _ => by simp only [PyData.hasDict]
  | .list ds, _, h => by
    cases h with
    | lst _ ha => simp only [PyData.hasDict]; exact dp_noDictAll ds _ ha
  | .tuple ds, _, h => by
    cases h with
    | tup _ ha => simp only [PyData.hasDict]; exact dp_noDictAll ds _ ha
  | .dict _, _, h => by cases h
theorem dp_noDictAll {K : PySem.W.Frag} {H : Hp} : ∀ (ds : List PyData) (vs : List V), DpAll K H vs ds → PyData.hasDictAll ds = false
  | [], _, _ => by simp only [PyData.hasDictAll]
  | d :: ds, _, h => by
    cases h with
    | cons h1 h2 =>
      simp only [PyData.hasDictAll]
      rw [dp_noDict d _ h1, dp_noDictAll ds _ h2]
      rfl
end
theorem c_repr (hg : X.A.guards = some []) (hu : X.A.units + 64 < cLine) : CallR X (.builtin "repr") (rRepr X.K) := by
  intro pins s σ H xs us Q I r h
  obtain ⟨x, d, rfl, hd, hs, hz, hdep, q⟩ := h
  obtain ⟨u, rfl, rx⟩ := vals1 r
  obtain ⟨as, rd⟩ := Dp.reads I d x u hd rx
  have hnd := dp_noDict d x hd
  cases x with
  | ref a =>
    obtain rfl : u = .ref a := rx
    refine repr_of_reads' rd hs (fun h => by rw [hnd] at h; cases h) hg (by omega) (fun _ _ e => e) (fun h' u tk hk => ⟨.str _, H, I.kept (t' := tk) hk, ⟨u, rfl⟩, q⟩) hz
  | non =>
    cases hd
    obtain rfl : u = .none := rx
    simp only [PyData.shown] at q
    exact PySem.P.repr_of_none ⟨.str _, H, I.tok _, ⟨_, rfl⟩, q⟩
  | bl b =>
    cases hd
    obtain rfl : u = .bool b := rx
    simp only [PyData.shown] at q
    exact PySem.P.repr_of_bool ⟨.str _, H, I.tok _, ⟨_, rfl⟩, q⟩
  | int i =>
    cases hd
    obtain ⟨t, rfl⟩ := rx
    simp only [PyData.shown] at q
    simp only [PyData.showable] at hs
    exact PySem.P.repr_of_int (of_decide_eq_true hs) ⟨.str _, H, I.tok _, ⟨_, rfl⟩, q⟩
  | str z =>
    cases hd
    obtain ⟨t, rfl⟩ := rx
    simp only [PyData.shown] at q hz
    exact PySem.P.repr_of_str ⟨.str _, H, I.tok _, ⟨_, rfl⟩, q⟩ hz
  | byt b => cases hd
  | flt b => cases hd
  | ty n => cases hd

/-! ### contracts that know that no repr is under way -/
structure FnG (P : Program) (w : World) (K : PySem.W.Frag) (mg : Str → Option Value) (base : Heap) (CX : CXT) (k : Nat) (f : Addr) (fd : FuncData) (ps : List Str) (sp : Sp) : Prop where
  len : ∀ vs H Q E, sp vs H Q E → vs.length = ps.length
  run : ∀ (A : Around) (outer : List Env) (s : Shared) (H : Hp) (args : Args) (us : List Value) (vs : List V) (Q : VK) (E : XK), A.guards = some [] → Room k A → Env0 P w K mg base A outer s H → BindsTo s fd args (ps.zip us) →
    Vals vs us → sp vs H Q E → codeAny (model P w) A (.call (.ref f) args) (CR CX outer P w H s Q E) s
theorem FnG.of {P : Program} {w : World} {K : PySem.W.Frag} {mg : Str → Option Value} {base : Heap} {CX : CXT} {k : Nat} {f : Addr} {fd : FuncData} {ps : List Str} {sp : Sp} (F : FnOk P w K mg base CX k f fd ps sp) : FnG P w K mg base CX k f fd ps sp :=
  ⟨F.len, fun A outer s H args us vs Q E _ => F.run A outer s H args us vs Q E⟩
end
section
variable {X : Cx} {CX : CXT} {k : Nat} {f : Addr} {fd : FuncData} {ps : List Str} {sp : Sp} {ds : List Value} {dvs : List V} {E : XK} {x : Str} {p pos : Pos} {e : Expr} {es : List Expr} {t : TA}
theorem run_g {pins : List (Addr × Obj)} {σ : L2.St} {H : Hp} {s : Shared} {Q : VK} {us : List Value} {vs : List V} (F : FnG X.prog X.w X.K X.mg X.base CX k f fd ps sp) (hG : X.A.guards = some []) (hr : Room k X.A) (hb : Binds X.K fd ps ds) (hd : Vals dvs ds)
    (hx : Passes CX X E) (I : Inv X pins σ H s) (r : Vals vs us) (h : sp (vs ++ dvs) H Q E) : wpAny (model X.prog X.w) X.A (call (.ref f) us) (EP X pins σ Q) X.xe s := by
  have r2 : Vals (vs ++ dvs) (us ++ ds) := r.append hd
  have hl : (us ++ ds).length = ps.length := r2.length.symm.trans (F.len _ _ _ _ h)
  have go := F.run X.A X.stack s H ⟨us, []⟩ (us ++ ds) (vs ++ dvs) Q E hG hr I.env0 (hb s us I.kIn hl) r2 h
  refine wpAny_call (codeAny_mono go fun r s' hq => ?_)
  match r, hq with
  | .error e, hq => exact hx pins σ H s e s' I hq
  | .ok (.ret u), hq => exact I.after hq
  | .ok .next, hq => exact hq.elim
  | .ok .brk, hq => exact hq.elim
  | .ok .cont, hq => exact hq.elim
theorem pe_callG (F : FnG X.prog X.w X.K X.mg X.base CX k f fd ps sp) (hG : X.A.guards = some []) (hr : Room k X.A) (hg : Gl X x) (hm : X.mg x = some (.ref f)) (hk : PySem.W.keepIn X.K (.ref f) = true) (hb : Binds X.K fd ps ds) (hd : Vals dvs ds) (hx : Passes CX X E)
    (ha : PA X (e :: es) t) (hdb : (x == ("__debug__" : Str)) = false := by decide) (he : starEach (e :: es) X.env = (false, eval e X.env) :: starEach es X.env := by rfl) (hpl : (backTo pos (starEach es X.env)).any (·.1) = false := by rfl) :
    PE X (.Call (.Name x p) (e :: es) [] pos) (tCall sp dvs E t) := by
  refine ⟨fun pins s σ H Q I h => wpAny_Call_Name_kw (ld_glob I hg hm ?_ hdb)⟩
  exact PySem.W.callWith_K (h₀ := X.base) I.ok.mod.kin hk (thn (ha.run pos pins s σ H _ I h) fun us s1 ⟨vs, H1, I1, r, q⟩ => ⟨I1.kIn, run_g F hG hr hb hd hx I1 r q⟩) he hpl
theorem pe_callG0 (F : FnG X.prog X.w X.K X.mg X.base CX k f fd ps sp) (hG : X.A.guards = some []) (hr : Room k X.A) (hg : Gl X x) (hm : X.mg x = some (.ref f)) (hk : PySem.W.keepIn X.K (.ref f) = true) (hb : Binds X.K fd ps ds) (hd : Vals dvs ds) (hx : Passes CX X E)
    (hdb : (x == ("__debug__" : Str)) = false := by decide) : PE X (.Call (.Name x p) [] [] pos) (tCall sp dvs E tNil) :=
  ⟨fun pins s σ H Q I h => wpAny_Call_Name_kw (ld_glob I hg hm (PySem.W.callWith_K0 I.kIn hk (run_g (us := []) F hG hr hb hd hx I .nil h)) hdb)⟩
end
section
variable {P : Program} {w : World} {K : PySem.W.Frag} {mg : Str → Option Value} {base : Heap} {x qual : Str} {params : Arguments} {body : List Stmt} {scope : Scope} {dvs : List V} {kws : List (Str × V)} {f : Addr} {fd : FuncData}
theorem fnG_ok {CX : CXT} {N ps : List Str} {k : Nat} {sp : Sp} (F : FunD K x qual params body scope dvs kws f fd) (S : FnScope N ps scope) (len : ∀ vs H Q E, sp vs H Q E → vs.length = ps.length)
    (hbody : ∀ (cdv : Value) (A : Around) (outer : List Env) (s : Shared) (H : Hp) (vs : List V) (Q : VK) (E : XK), (A.deeper (envOfC qual scope s.heap.objs.size f cdv)).guards = some [] → Room k (A.deeper (envOfC qual scope s.heap.objs.size f cdv)) → sp vs H Q E →
      ∃ t, PSs (cxOf CX P w K mg base N qual scope f cdv A outer s H E) body t ∧ t { nx := fun _ H' => Q .non H', rt := Q } (start N vs) H) : FnG P w K mg base CX (k + 1) f fd ps sp := by
  obtain ⟨oc, od, dV, kV, doc, pm, an, cdv, ct, osl, rfl, lk, hcd, _, _⟩ := F.ex
  refine ⟨len, fun A outer s H args us vs Q E hG hr e0 hb r hsp => ?_⟩
  have KX : K.In s.heap := e0.mod.kin.keeps fun b o e => (e0.bs b o e).1
  have lim : s.heap.NoLimit := e0.mod.nolimit.keeps fun b o e => (e0.bs b o e).1
  have hkind : ∀ y ∈ ps.zip us, scope.names.lookup y.1 = some .local ∨ (scope.names.lookup y.1 = some .cell ∧ ((cellsFrom (s.heap.objs.size + 1) scope.names []).lookup y.1).isSome = true) := fun y hy =>
    (S.par y.1 (List.of_mem_zip (show (y.1, y.2) ∈ ps.zip us from hy)).1).imp id fun q => ⟨q, PySem.W.cellsFrom_some _ _ _ (.inl q)⟩
  refine codeAny_call_function hr.depth (KX _ _ lk) rfl S.co S.gen rfl (PySem.W.codeRec_of KX hcd) (hb _ _ _ _ (wpAny_newFunctionEnv_cells S.kind hkind fun env he s1 x => ?_))
  subst he
  refine ⟨lim.keeps x.toInCall.keep, codeAny_func ?_⟩
  obtain ⟨t, ht, hq⟩ := hbody cdv A outer s H vs Q E hG (hr.deeper _) hsp
  have I : Inv (cxOf CX P w K mg base N qual scope f cdv A outer s H E) [] (start N vs) H s1 := inv_start S hr.hd e0 (len _ _ _ _ hsp) r x
  refine wpAny_mono (ht.run [] s1 (start N vs) H _ I hq) (fun fl s' hs => ?_) fun e s' hs => hs
  match fl, hs with
  | .ret u, ⟨v, σ', H', J, rv, q⟩ => exact ⟨v, H', J.os, J.bare, J.base, J.hok, rv, q⟩
  | .next, ⟨σ', H', J, q⟩ => exact ⟨V.non, H', J.os, J.bare, J.base, J.hok, rfl, q⟩
  | .brk, ⟨_, _, _, q⟩ => exact q.elim
  | .cont, ⟨_, _, _, q⟩ => exact q.elim
end
end Px

namespace Px
open PySem PySem.Spec PyProof.Rows L2
/-! ### built-ins by any kind of value -/
def rLenU (K : PySem.W.Frag) : List V → Hp → VK → Prop := fun xs H Q => ∃ x n, xs = [x] ∧ LenV K x H n ∧ Q (.int n) H
def rAbs : List V → Hp → VK → Prop := fun xs H Q => ∃ i, xs = [.int i] ∧ Q (.int (if i < 0 then -i else i)) H
def rMax2 : List V → Hp → VK → Prop := fun xs H Q => ∃ i j, xs = [.int i, .int j] ∧ Q (.int (if j > i then j else i)) H
def rMin2 : List V → Hp → VK → Prop := fun xs H Q => ∃ i j, xs = [.int i, .int j] ∧ Q (.int (if j < i then j else i)) H
def rStrI : List V → Hp → VK → Prop := fun xs H Q => ∃ i, xs = [.int i] ∧ i.natAbs.log2 < 1920 ∧ Q (.str (toString i)) H
def rListOf (K : PySem.W.Frag) : List V → Hp → VK → Prop := fun xs H Q => ∃ p ys, xs = [.ref p] ∧ (SqL K H p ys ∨ SqT K H p ys) ∧ ∀ l, H l = none → Q (.ref l) (upd H l (.lst ys))
def rOrd : List V → Hp → VK → Prop := fun xs H Q => ∃ i : Nat, xs = [.str ⟨#[i]⟩] ∧ Q (.int i) H
def rJoin (K : PySem.W.Frag) : V → List V → Hp → VK → Prop := fun x xs H Q => ∃ a p, ∃ ys : List Str, x = .str a ∧ xs = [.ref p] ∧ (SqL K H p (ys.map V.str) ∨ SqT K H p (ys.map V.str)) ∧
  (ys.map (·.length)).sum + ys.length * a.length ≤ 16777216 ∧ Q (.str (Txt.join a ys)) H
def tJoinU (K : PySem.W.Frag) (to te : TE) : TE := tM1 (rJoin K) to te
section
variable {X : Cx}
theorem c_lenU : CallR X (.builtin "len") (rLenU X.K) := call_len
theorem c_abs : CallR X (.builtin "abs") rAbs := call_abs
theorem c_max2 (hc : X.calm = true) : CallR X (.builtin "max") rMax2 := call_max2 hc
theorem c_min2 (hc : X.calm = true) : CallR X (.builtin "min") rMin2 := call_min2 hc
/-! ### x += y -/
def rIaddS : TIp := fun x y H Q => ∃ i j, x = .str i ∧ y = .str j ∧ i.length + j.length ≤ sizeLine ∧ Q (.str (i ++ j)) H
def rIaddU (K : PySem.W.Frag) : TIp := fun x y H Q => ipI (fun i j => i + j) x y H Q ∨ rIaddS x y H Q
theorem PIp.or {op : Operator} {t1 t2 : TIp} (h1 : PIp X op t1) (h2 : PIp X op t2) : PIp X op (fun x y H Q => t1 x y H Q ∨ t2 x y H Q) := fun pins s σ H x y v u Q I rx ry h => by
  rcases h with h | h
  · exact h1 pins s σ H x y v u Q I rx ry h
  · exact h2 pins s σ H x y v u Q I rx ry h
theorem ip_addU : PIp X .Add (rIaddU X.K) := PIp.or ip_add fun pins s σ H x y v u Q I rx ry h => iop_add_str pins s σ H x y v u Q I rx ry h
end
section
variable {K : PySem.W.Frag} {σ : S} {H : Hp} {Q : VK} {D : Ends} {t u : TS} {ta tb tc td te : TE} {x y v : V} {tr : TA} {i j : Int}
theorem r_addUI (h : Q (.int (i + j)) H) : rAddU K (.int i) (.int j) H Q := .inl ⟨i, j, rfl, rfl, h⟩
theorem r_addUS {a b : Str} (h1 : a.length + b.length ≤ sizeLine) (h : Q (.str (a ++ b)) H) : rAddU K (.str a) (.str b) H Q := .inr (.inl ⟨a, b, rfl, rfl, h1, h⟩)
theorem r_addUL {l b : Addr} {xs zs : List V} (h1 : H l = some (.lst xs)) (h2 : H b = some (.lst zs)) (h3 : xs.length + zs.length ≤ sizeLine) (h : ∀ p, H p = none → Q (.ref p) (upd H p (.lst (xs ++ zs)))) : rAddU K (.ref l) (.ref b) H Q :=
  .inr (.inr (.inl ⟨l, b, xs, zs, rfl, rfl, h1, h2, h3, h⟩))
theorem r_mulUI (h1 : CMul i j) (h : Q (.int (i * j)) H) : rMulU K (.int i) (.int j) H Q := .inl ⟨i, j, rfl, rfl, h1, h⟩
theorem r_mulUL {l : Addr} {xs : List V} (h1 : H l = some (.lst xs)) (h2 : -(2 ^ 63) ≤ i ∧ i < 2 ^ 63) (h3 : xs.length * i.toNat ≤ sizeLine) (h : ∀ p, H p = none → Q (.ref p) (upd H p (.lst (List.replicate i.toNat xs).flatten))) : rMulU K (.ref l) (.int i) H Q :=
  .inr ⟨l, i, xs, rfl, rfl, h1, h2.1, h2.2, h3, h⟩
theorem r_eqUI (h : Q (.bl (decide (i = j))) H) : rEqU K (.int i) (.int j) H Q := .inl (r_eqI h)
theorem r_eqUS {a b : Str} (h : Q (.bl (decide (a = b))) H) : rEqU K (.str a) (.str b) H Q := .inl (r_eqS h)
theorem r_eqUB {a b : Bool} (h : Q (.bl (decide (a = b))) H) : rEqU K (.bl a) (.bl b) H Q := .inl (r_eqB h)
theorem r_neUI (h : Q (.bl (!decide (i = j))) H) : rNeU K (.int i) (.int j) H Q := .inl (r_neI h)
theorem r_neUS {a b : Str} (h : Q (.bl (!decide (a = b))) H) : rNeU K (.str a) (.str b) H Q := .inl (r_neS h)
theorem r_eqUD {d e : PyData} (h1 : Dp K H x d) (h2 : Dp K H y e) (h3 : SeqAt.shaped d = true) (h4 : SeqAt.shaped e = true) (h : Q (.bl (PyData.eqv d e)) H) : rEqU K x y H Q := .inr ⟨d, e, h1, h2, h3, h4, h⟩
theorem r_neUD {d e : PyData} (h1 : Dp K H x d) (h2 : Dp K H y e) (h3 : SeqAt.shaped d = true) (h4 : SeqAt.shaped e = true) (h : Q (.bl (!PyData.eqv d e)) H) : rNeU K x y H Q := .inr ⟨d, e, h1, h2, h3, h4, h⟩
theorem r_lenUL {a : Addr} {xs : List V} (h1 : SqL K H a xs) (h : Q (.int xs.length) H) : rLenU K [.ref a] H Q := ⟨_, xs.length, rfl, .inl ⟨xs, h1, rfl⟩, h⟩
theorem r_lenUT {a : Addr} {xs : List V} (h1 : SqT K H a xs) (h : Q (.int xs.length) H) : rLenU K [.ref a] H Q := ⟨_, xs.length, rfl, .inr ⟨xs, h1, rfl⟩, h⟩
theorem r_lenUS {z : Str} (h1 : z.length ≤ sizeLine) (h : Q (.int z.length) H) : rLenU K [.str z] H Q := ⟨_, z.length, rfl, ⟨h1, rfl⟩, h⟩
theorem r_abs (h : Q (.int (if i < 0 then -i else i)) H) : rAbs [.int i] H Q := ⟨i, rfl, h⟩
theorem r_max2 (h : Q (.int (if j > i then j else i)) H) : rMax2 [.int i, .int j] H Q := ⟨i, j, rfl, h⟩
theorem r_min2 (h : Q (.int (if j < i then j else i)) H) : rMin2 [.int i, .int j] H Q := ⟨i, j, rfl, h⟩
theorem r_strI (h1 : i.natAbs.log2 < 1920) (h : Q (.str (toString i)) H) : rStrI [.int i] H Q := ⟨i, rfl, h1, h⟩
theorem r_listL {a : Addr} {xs : List V} (h1 : SqL K H a xs) (h : ∀ l, H l = none → Q (.ref l) (upd H l (.lst xs))) : rListOf K [.ref a] H Q := ⟨a, xs, rfl, .inl h1, h⟩
theorem r_min {a : Addr} {ns : List Int} (h1 : SqL K H a (ns.map V.int)) (h2 : 0 < ns.length) (h : ∀ m, m ∈ ns → (∀ y, y ∈ ns → m ≤ y) → Q (.int m) H) : rMin K [.ref a] H Q := ⟨a, ns, rfl, h1, h2, h⟩
theorem r_isi {c : V} {tv cu : Value} {b : Bool} (h1 : ClsV c cu) (h2 : TyX K H x tv) (h3 : PySem.W.kitOne K tv cu = some b) (h : Q (.bl b) H) : rIsi K [x, c] H Q := ⟨x, c, tv, cu, b, rfl, h1, h2, h3, h⟩
theorem r_repr {d : PyData} (h1 : Dp K H x d) (h2 : d.showable = true) (h3 : d.shown.length ≤ sizeLine) (h4 : d.depth ≤ 60) (h : Q (.str d.shown) H) : rRepr K [x] H Q := ⟨x, d, rfl, h1, h2, h3, h4, h⟩
theorem r_sl {r : V → Option Int → Option Int → Hp → VK → Prop} {tl th : TO} (h : te σ H fun x H1 => tl σ H1 fun l H2 => th σ H2 fun u H3 => r x l u H3 Q) : tSl r te tl th σ H Q := h
theorem r_noPart {P : Option Int → Hp → Prop} (h : P none H) : tNoPart σ H P := h
theorem r_part {P : Option Int → Hp → Prop} (h : te σ H fun x H1 => ∃ i, x = .int i ∧ P (some i) H1) : tPart te σ H P := h
theorem r_int {P : Int → Prop} (h : P i) : ∃ k, V.int i = V.int k ∧ P k := ⟨i, rfl, h⟩
theorem r_slUL {lo hi : Option Int} {a : Addr} {xs : List V} (h1 : SqL K H a xs) (h : ∀ p, H p = none → Q (.ref p) (upd H p (.lst (cutV xs lo hi)))) : rSlU K (.ref a) lo hi H Q := .inl ⟨a, xs, rfl, h1, h⟩
theorem r_slUS {lo hi : Option Int} {z : Str} (h1 : z.length ≤ sizeLine) (h : Q (.str (cutS z lo hi)) H) : rSlU K (.str z) lo hi H Q := .inr (.inl ⟨z, rfl, h1, h⟩)
theorem r_bm {T : String} {r : V → List V → Hp → VK → Prop} (h : ta σ H fun x H1 => tyV K T x H1 ∧ tr σ H1 fun xs H2 => r x xs H2 Q) : tBM K T r ta tr σ H Q := h
theorem r_tyL {a : Addr} {xs : List V} (h1 : SqL K H a xs) : tyV K "list" (.ref a) H := .inl ⟨rfl, _, h1⟩
theorem r_append {p : Addr} {xs : List V} (h1 : H p = some (.lst xs)) (h2 : xs.length < sizeLine) (h : Q .non (upd H p (.lst (xs ++ [y])))) : rAppend (.ref p) [y] H Q := ⟨p, xs, y, rfl, rfl, h1, h2, h⟩
theorem r_join {z : Str} (h : te σ H fun y H2 => rJoin K (.str z) [y] H2 Q) (h0 : ta = tC (.str z)) : tJoinU K ta te σ H Q := by
  subst h0
  exact ⟨⟨z, rfl⟩, h⟩
theorem r_chain3 {r r' r'' : R2} (h : ta σ H fun x H1 => tb σ H1 fun y H2 => r x y H2 fun z H3 => ∃ k, z = .bl k ∧
  (if k = true then tc σ H3 fun y' H4 => r' y y' H4 fun z' H5 => ∃ k', z' = .bl k' ∧ (if k' = true then td σ H5 fun w' H6 => r'' y' w' H6 Q else Q (.bl false) H5) else Q (.bl false) H3)) : tChain3 r r' r'' ta tb tc td σ H Q := h
theorem r_iaddI {P : V → Hp → Prop} (h : P (.int (i + j)) H) : rIaddU K (.int i) (.int j) H P := .inl ⟨i, j, rfl, rfl, h⟩
theorem r_iaddS {a b : Str} {P : V → Hp → Prop} (h1 : a.length + b.length ≤ sizeLine) (h : P (.str (a ++ b)) H) : rIaddU K (.str a) (.str b) H P := .inr ⟨a, b, rfl, rfl, h1, h⟩
def tFors (J : It) (g : TG) (tb : TS) (D : Ends) (σ : S) (H : Hp) : Prop := ∃ W : Nat → Nat → S → Hp → Prop, (∃ m, W 0 m σ H) ∧ ∀ i m σ H, W i m σ H →
  (J.stop i H ∧ D.nx σ H) ∨ (J.go i H ∧ ∃ N : S → Hp → Prop, (∀ σ' H', N σ' H' → ∃ m', m' < m ∧ W (i + 1) m' σ' H') ∧ ∀ x H', J.yld i H x H' → g x σ H' fun σ2 H2 => tb { D with nx := N, ct := N, bk := D.nx } σ2 H2)
theorem r_for {wi : TI} {g : TG} {tb : TS} (h : wi σ H fun J H1 => tFors J g tb D σ H1) : tFor wi g tb D σ H := h
theorem f_it {J : It} {n : Nat} {G : Hp → Prop} {Y : Nat → Hp → V → Hp → Prop} {g : TG} {tb : TS} (w : Walk J n G Y) (Pv : Nat → S → Hp → Prop) (h0 : Pv 0 σ H) (hG : ∀ i σ H, i ≤ n → Pv i σ H → G H)
    (hs : ∀ i x σ H H', i < n → Pv i σ H → Y i H x H' → g x σ H' fun σ2 H2 => tb { D with nx := Pv (i + 1), ct := Pv (i + 1), bk := D.nx } σ2 H2) (hd : ∀ σ H, Pv n σ H → D.nx σ H) : tFors J g tb D σ H := for_it w Pv h0 hG hs hd
def tLcs (J : It) (g : TG) (tt : TT) (te : TE) (vs : List Nat) (σ : S) (H1 : Hp) (D : Addr) (Qd : Hp → Prop) : Prop := ∃ W : Nat → Nat → Hp → Prop, (∃ m, W 0 m (upd H1 D (.lst []))) ∧ ∀ i m H, W i m H →
  (J.stop i H ∧ Qd H) ∨ (J.go i H ∧ ∃ Nx : Hp → Prop, (∀ H', Nx H' → ∃ m', m' < m ∧ W (i + 1) m' H') ∧ ∀ x H', J.yld i H x H' → g x (wipe σ vs) H' fun σ2 H2 => wipe σ2 vs = wipe σ vs ∧ tt σ2 H2 fun b H3 =>
    if b = true then te σ2 H3 fun y H4 => ∃ acc, H4 D = some (.lst acc) ∧ acc.length < sizeLine ∧ Nx (upd H4 D (.lst (acc ++ [y]))) else Nx H3)
theorem r_lc {wi : TI} {g : TG} {tt : TT} {vs : List Nat} (h : wi σ H fun J H1 => ∀ p, H1 p = none → tLcs J g tt te vs σ H1 p fun H2 => Q (.ref p) H2) : tLc wi g tt te vs σ H Q := h
theorem c_it {J : It} {n : Nat} {G : Hp → Prop} {Y : Nat → Hp → V → Hp → Prop} {g : TG} {tt : TT} {vs : List Nat} {p : Addr} {Qd : Hp → Prop} (w : Walk J n G Y) (Pv : Nat → Hp → Prop) (h0 : Pv 0 (upd H p (.lst []))) (hG : ∀ i H, i ≤ n → Pv i H → G H)
    (hs : ∀ i x H H', i < n → Pv i H → Y i H x H' → g x (wipe σ vs) H' fun σ2 H2 => wipe σ2 vs = wipe σ vs ∧ tt σ2 H2 fun b H3 =>
      if b = true then te σ2 H3 fun y H4 => ∃ acc, H4 p = some (.lst acc) ∧ acc.length < sizeLine ∧ Pv (i + 1) (upd H4 p (.lst (acc ++ [y]))) else Pv (i + 1) H3) (hd : ∀ H, Pv n H → Qd H) : tLcs J g tt te vs σ H p Qd := lc_it w Pv h0 hG hs hd
theorem r_while {c : TT} {tb : TS} (Pv : S → Hp → Prop) (μ : S → Hp → Nat) (Pe : S → Hp → Prop) (h0 : Pv σ H) (he : ∀ σ H, Pe σ H → D.nx σ H)
    (hs : ∀ σ H, Pv σ H → (∀ σ H, Pe σ H → D.nx σ H) → c σ H fun b H1 => if b = true then ∃ N : S → Hp → Prop, (∀ σ' H', N σ' H' → ∃ m', m' < μ σ H ∧ (m' = μ σ' H' ∧ Pv σ' H')) ∧ tb { D with nx := N, ct := N, bk := D.nx } σ H1 else D.nx σ H1) : tWhile c tb D σ H := by
  refine ⟨fun m σ H => m = μ σ H ∧ Pv σ H, ⟨_, rfl, h0⟩, ?_⟩
  rintro m σ H ⟨rfl, p⟩
  exact hs σ H p he
theorem r_turn {tb : TS} {Pv : S → Hp → Prop} {μ : S → Hp → Nat} {m : Nat} {rt : VK} {bk : S → Hp → Prop} (h : tb { nx := fun σ' H' => Pv σ' H' ∧ μ σ' H' < m, rt := rt, ct := fun σ' H' => Pv σ' H' ∧ μ σ' H' < m, bk := bk } σ H) :
    ∃ N : S → Hp → Prop, (∀ σ' H', N σ' H' → ∃ m', m' < m ∧ (m' = μ σ' H' ∧ Pv σ' H')) ∧ tb { nx := N, rt := rt, ct := N, bk := bk } σ H :=
  ⟨_, fun σ' H' q => ⟨_, q.2, rfl, q.1⟩, h⟩
theorem r_iteNT {A B : Prop} (h : B) : if (!true) = true then A else B := h
theorem r_iteNF {A B : Prop} (h : A) : if (!false) = true then A else B := h
theorem r_isiT {p : Addr} {xs : List V} (h1 : H p = some (.tup xs)) (h : Q (.bl true) H) : rIsi K [.ref p, .ty "tuple"] H Q := r_isi (.ty "tuple") (.base (.tup h1)) (kit_ty (by decide +kernel)) h
theorem r_seqH (Mid : S → Hp → Prop) (h2 : ∀ σ G, Mid σ G → u D σ G) (h1 : (∀ σ G, Mid σ G → u D σ G) → t { D with nx := u D } σ H) : tSeq t u D σ H := h1 h2
theorem r_nx {f bk ct : S → Hp → Prop} {rt : VK} (h : f σ H) : Ends.nx { nx := f, rt := rt, bk := bk, ct := ct } σ H := h
theorem r_bk {f bk ct : S → Hp → Prop} {rt : VK} (h : bk σ H) : Ends.bk { nx := f, rt := rt, bk := bk, ct := ct } σ H := h
theorem r_ct {f bk ct : S → Hp → Prop} {rt : VK} (h : ct σ H) : Ends.ct { nx := f, rt := rt, bk := bk, ct := ct } σ H := h
theorem r_rt {f bk ct : S → Hp → Prop} {rt : VK} (h : rt v H) : Ends.rt { nx := f, rt := rt, bk := bk, ct := ct } v H := h
theorem r_iseqL {R : It → Hp → Prop} (h : te σ H fun x H1 => ∃ a, x = .ref a ∧ (∃ xs, SqL K H1 a xs) ∧ R (Itl K a) H1) : iSeqU K te σ H R := .inl h
theorem r_iseqT {R : It → Hp → Prop} (h : te σ H fun x H1 => ∃ a, x = .ref a ∧ (∃ xs, SqT K H1 a xs) ∧ R (Itt K a) H1) : iSeqU K te σ H R := .inr (.inl h)
theorem r_iseqS {R : It → Hp → Prop} (h : te σ H fun v H1 => ∃ x, v = .str x ∧ R (Its x) H1) : iSeqU K te σ H R := .inr (.inr h)
theorem r_yes {P : Bool → Hp → Prop} (h : P true H) : tYes σ H P := h
theorem r_rng1 {R : It → Hp → Prop} (h : tr σ H fun vs H1 => ∃ j : Int, vs = [.int j] ∧ -(2 ^ 62) ≤ j ∧ j < 2 ^ 62 ∧ R (Itr 0 j.toNat) H1) : iRng1 tr σ H R := h
theorem r_one {P : Int → Prop} (h1 : -(2 ^ 62) ≤ i ∧ i < 2 ^ 62) (h : P i) : ∃ j : Int, [V.int i] = [.int j] ∧ -(2 ^ 62) ≤ j ∧ j < 2 ^ 62 ∧ P j := ⟨i, rfl, h1.1, h1.2, h⟩
end
end Px

namespace Px
open PySem PySem.Spec PyProof.Rows L2
/-! ### how long what repr shows may be -/
structure Sm (n : Nat) (d : PyData) : Prop where
  sh : d.showable = true
  le : d.shown.length ≤ n
theorem Sm.mono {n m : Nat} {d : PyData} (h : Sm n d) (l : n ≤ m) : Sm m d := ⟨h.sh, Nat.le_trans h.le l⟩
theorem append_len (a b : Str) : (a ++ b).length = a.length + b.length := by
  show (a.cps ++ b.cps).size = a.cps.size + b.cps.size
  rw [Array.size_append]
theorem join_len (sep : Str) (n : Nat) : ∀ ts : List Str, (∀ t ∈ ts, t.length ≤ n) → (Str.join sep ts).length ≤ ts.length * (n + sep.length)
  | [], _ => by rw [join_nil]; exact Nat.zero_le _
  | [x], h => by
    rw [join_one]
    have := h x (by simp)
    simp
    omega
  | x :: y :: r, h => by
    rw [join_cons_cons, append_len, append_len]
    have h1 := h x (by simp)
    have h2 := join_len sep n (y :: r) fun t ht => h t (List.mem_cons_of_mem _ ht)
    have e : (x :: y :: r).length = (y :: r).length + 1 := rfl
    rw [e, Nat.add_mul, Nat.one_mul]
    omega
theorem lt_log {n : Nat} (h : n < 10 ^ 20) : n.log2 < 1920 := by
  by_cases z : n = 0
  · rw [z]; decide
  · exact (Nat.log2_lt z).mpr (Nat.lt_trans h (by decide))
theorem Sm.int {i : Int} (h : i.natAbs < 10 ^ 20) : Sm 21 (.int i) := by
  refine ⟨?_, ?_⟩
  · simp only [PyData.showable]; exact decide_eq_true (lt_log h)
  · simp only [PyData.shown]
    have := int_text_length_le10 (a := i) (k := 20) (by decide) h
    rw [PySem.ofString_length]
    exact this
theorem Sm.str {z : Str} (h : ∀ c ∈ z.cps.toList, c < 16 ^ 8) : Sm (10 * z.length + 2) (.str z) := by
  refine ⟨by simp only [PyData.showable], ?_⟩
  simp only [PyData.shown]
  exact PySem.StrLaws.reprText_len z h
theorem shownAll_le {n : Nat} : ∀ {ds : List PyData}, (∀ d ∈ ds, Sm n d) → PyData.showableAll ds = true ∧ (PyData.shownAll ds).length = ds.length ∧ ∀ t ∈ PyData.shownAll ds, t.length ≤ n
  | [], _ => ⟨by simp only [PyData.showableAll], by simp only [PyData.shownAll, List.length_nil], fun t h => by simp only [PyData.shownAll] at h; cases h⟩
  | d :: ds, h => by
    obtain ⟨h1, h2, h3⟩ := shownAll_le (ds := ds) fun e he => h e (List.mem_cons_of_mem _ he)
    have h0 := h d (by simp)
    refine ⟨?_, ?_, ?_⟩
    · simp only [PyData.showableAll, h0.sh, h1, Bool.and_self]
    · simp only [PyData.shownAll, List.length_cons, h2]
    · intro t ht
      simp only [PyData.shownAll] at ht
      rcases List.mem_cons.mp ht with e | e
      · rw [e]; exact h0.le
      · exact h3 t e
theorem Sm.list {n : Nat} {ds : List PyData} (h : ∀ d ∈ ds, Sm n d) : Sm (ds.length * (n + 2) + 2) (.list ds) := by
  obtain ⟨h1, h2, h3⟩ := shownAll_le h
  refine ⟨by simp only [PyData.showable]; exact h1, ?_⟩
  simp only [PyData.shown, PySem.listText_eq_join]
  have q := join_len (", " : Str) n _ h3
  rw [h2] at q
  rw [append_len, append_len]
  show 1 + _ + 1 ≤ _
  have e : (Str.ofString ", ").length = 2 := rfl
  rw [e] at q
  omega
theorem Sm.tuple {n : Nat} {ds : List PyData} (h : ∀ d ∈ ds, Sm n d) : Sm (ds.length * (n + 2) + 3) (.tuple ds) := by
  obtain ⟨h1, h2, h3⟩ := shownAll_le h
  refine ⟨by simp only [PyData.showable]; exact h1, ?_⟩
  simp only [PyData.shown, tupleText]
  have q := join_len (", " : Str) n _ h3
  rw [h2] at q
  rw [append_len, append_len]
  have e : (Str.ofString ", ").length = 2 := rfl
  rw [e] at q
  have e1 : (Str.ofString "(").length = 1 := rfl
  rw [e1]
  split
  · have e2 : (Str.ofString ",)").length = 2 := rfl
    rw [e2]; omega
  · have e2 : (Str.ofString ")").length = 1 := rfl
    rw [e2]; omega
theorem small_line {n : Nat} (h : n ≤ 16777216) : n ≤ sizeLine := by rw [sizeLine_eq]; exact h

/-! ### lists of ints and texts as one thing -/
/-- a text of these code points -/
def sOf (xs : List Int) : Str := ⟨(xs.map Int.toNat).toArray⟩
theorem sOf_len (xs : List Int) : (sOf xs).length = xs.length := by
  show (List.toArray (xs.map Int.toNat)).size = xs.length
  simp
theorem sOf_list (xs : List Int) : (sOf xs).cps.toList = xs.map Int.toNat := by simp [sOf]
theorem sOf_append (xs ys : List Int) : sOf xs ++ sOf ys = sOf (xs ++ ys) := by
  show (⟨_ ++ _⟩ : Str) = _
  unfold sOf
  simp
def Cps (xs : List Int) : Prop := ∀ x ∈ xs, 0 ≤ x ∧ x < 16 ^ 8
theorem toNat_inj : ∀ {xs ys : List Int}, Cps xs → Cps ys → xs.map Int.toNat = ys.map Int.toNat → xs = ys
  | [], [], _, _, _ => rfl
  | [], _ :: _, _, _, h => by simp at h
  | _ :: _, [], _, _, h => by simp at h
  | x :: xs, y :: ys, hx, hy, h => by
    simp only [List.map_cons, List.cons.injEq] at h
    have e := toNat_inj (fun z hz => hx z (List.mem_cons_of_mem _ hz)) (fun z hz => hy z (List.mem_cons_of_mem _ hz)) h.2
    have h1 := (hx x (by simp)).1
    have h2 := (hy y (by simp)).1
    have e2 : x = y := by omega
    rw [e, e2]
theorem sOf_inj {xs ys : List Int} (hx : Cps xs) (hy : Cps ys) : sOf xs = sOf ys ↔ xs = ys := by
  constructor
  · intro h
    have e := congrArg (fun z : Str => z.cps.toList) h
    simp only [sOf_list] at e
    exact toNat_inj hx hy e
  · intro h; rw [h]
/-- one item: an int, or a text of one sign -/
def itV (k : Bool) (x : Int) : V := if k = true then .str ⟨#[x.toNat]⟩ else .int x
/-- v is a list of these ints, or the text of these code points -/
def IsQ (H : Hp) (k : Bool) (v : V) (xs : List Int) : Prop := xs.length ≤ 100000 ∧ ((k = false ∧ ∃ a, v = .ref a ∧ H a = some (.lst (xs.map V.int))) ∨ (k = true ∧ v = .str (sOf xs) ∧ Cps xs))
/-- .. and, if it is a list, one that H does not know -/
def NewQ (H H' : Hp) (k : Bool) (v : V) (xs : List Int) : Prop := IsQ H' k v xs ∧ (∀ a, v = .ref a → H a = none)
theorem IsQ.same {H H' : Hp} {k : Bool} {v : V} {xs : List Int} (q : IsQ H k v xs) (e : Same H H') : IsQ H' k v xs := by
  obtain ⟨l, q⟩ := q
  refine ⟨l, ?_⟩
  rcases q with ⟨hk, a, hv, h⟩ | q
  · exact .inl ⟨hk, a, hv, e _ _ h⟩
  · exact .inr q
def dq (k : Bool) (xs : List Int) : PyData := if k = true then .str (sOf xs) else .list (xs.map PyData.int)
theorem dpAll_ints {K : PySem.W.Frag} {H : Hp} : ∀ xs : List Int, DpAll K H (xs.map V.int) (xs.map PyData.int)
  | [] => .nil
  | x :: xs => .cons (.int x) (dpAll_ints xs)
theorem IsQ.dp {K : PySem.W.Frag} {H : Hp} {k : Bool} {v : V} {xs : List Int} (q : IsQ H k v xs) : Dp K H v (dq k xs) := by
  obtain ⟨l, ⟨rfl, a, rfl, h⟩ | ⟨rfl, rfl, c⟩⟩ := q
  · exact .lst (ql h) (dpAll_ints xs)
  · exact .str _
theorem canLay_ints : ∀ xs : List Int, PyData.canLayAll0 (xs.map PyData.int) = true
  | [] => by simp only [List.map_nil, PyData.canLayAll0]
  | x :: xs => by simp only [List.map_cons, PyData.canLayAll0, PyData.canLay0, canLay_ints xs, Bool.and_self]
theorem depth_ints : ∀ xs : List Int, PyData.depthAll (xs.map PyData.int) = 0
  | [] => by simp only [List.map_nil, PyData.depthAll]
  | x :: xs => by simp only [List.map_cons, PyData.depthAll, PyData.depth, depth_ints xs, Nat.max_self]
theorem shaped_list_ints (xs : List Int) : SeqAt.shaped (.list (xs.map PyData.int)) = true := by
  unfold SeqAt.shaped
  simp only [PyData.canLay0, PyData.depth, canLay_ints, depth_ints]
  decide
theorem strOk_of {z : Str} (h : ∀ c ∈ z.cps.toList, c < 0x110000) : PyData.strOk z = true := by
  unfold PyData.strOk
  rw [Array.all_eq_true_iff_forall_mem]
  intro c hc
  exact decide_eq_true (h c (by simpa using hc))
theorem eqv_ints : ∀ xs ys : List Int, PyData.eqvAll (xs.map PyData.int) (ys.map PyData.int) = decide (xs = ys)
  | [], [] => by simp only [List.map_nil, PyData.eqvAll]; rfl
  | [], y :: ys => by simp only [List.map_nil, List.map_cons, PyData.eqvAll]; simp
  | x :: xs, [] => by simp only [List.map_nil, List.map_cons, PyData.eqvAll]; simp
  | x :: xs, y :: ys => by
    simp only [List.map_cons, PyData.eqvAll, PyData.eqv, eqv_ints xs ys]
    by_cases h : x = y <;> simp [h]

theorem dq_shaped {k : Bool} {xs : List Int} (h : k = true → ∀ x ∈ xs, x < 0x110000) : SeqAt.shaped (dq k xs) = true := by
  cases k with
  | false => exact shaped_list_ints xs
  | true =>
    unfold SeqAt.shaped dq
    rw [if_pos rfl]
    simp only [PyData.canLay0, PyData.depth]
    rw [strOk_of]
    · rfl
    · intro c hc
      rw [sOf_list] at hc
      obtain ⟨x, hx, rfl⟩ := List.mem_map.mp hc
      have := h rfl x hx
      omega
theorem dq_eqv {k : Bool} {xs ys : List Int} (hx : k = true → Cps xs) (hy : k = true → Cps ys) : PyData.eqv (dq k xs) (dq k ys) = decide (xs = ys) := by
  cases k with
  | false =>
    show PyData.eqv (.list _) (.list _) = _
    simp only [PyData.eqv, eqv_ints]
  | true =>
    show PyData.eqv (.str _) (.str _) = _
    simp only [PyData.eqv]
    have e := sOf_inj (hx rfl) (hy rfl)
    by_cases h : xs = ys
    · rw [h]; simp
    · rw [decide_eq_false h]
      exact beq_eq_false_iff_ne.mpr fun z => h (e.mp z)
theorem IsQ.len {H : Hp} {k : Bool} {v : V} {xs : List Int} (q : IsQ H k v xs) : xs.length ≤ 100000 := q.1
theorem IsQ.cps {H : Hp} {k : Bool} {v : V} {xs : List Int} (q : IsQ H k v xs) : k = true → Cps xs := fun e => by
  obtain ⟨_, ⟨hk, _⟩ | ⟨_, _, c⟩⟩ := q
  · rw [hk] at e; cases e
  · exact c
section
variable {K : PySem.W.Frag} {H : Hp} {Q : VK} {k : Bool} {v u : V} {xs ys : List Int} {i : Int}
theorem q_len (q : IsQ H k v xs) (h : Q (.int xs.length) H) : rLenU K [v] H Q := by
  obtain ⟨l, ⟨rfl, a, rfl, e⟩ | ⟨rfl, rfl, c⟩⟩ := q
  · have e2 : (xs.map V.int).length = xs.length := List.length_map ..
    exact r_lenUL (ql e) (by rw [e2]; exact h)
  · exact r_lenUS (by rw [sOf_len]; exact small_line (by omega)) (by rw [sOf_len]; exact h)
theorem q_ix {j : Nat} {x : Int} (q : IsQ H k v xs) (hj : i = (j : Int)) (hx : xs[j]? = some x) (h : Q (itV k x) H) : rIx K v (.int i) H Q := by
  subst hj
  obtain ⟨l, ⟨rfl, a, rfl, e⟩ | ⟨rfl, rfl, c⟩⟩ := q
  · exact r_ixL (ql e) (atI_nat (by rw [List.getElem?_map, hx]; rfl)) h
  · exact r_ixS (by rw [sOf_len]; exact small_line (by omega)) (atI_nat (by rw [sOf_list, List.getElem?_map, hx]; rfl)) h
theorem q_eqi {x y : Int} (hx : k = true → 0 ≤ x) (hy : k = true → 0 ≤ y) (h : Q (.bl (decide (x = y))) H) : rEqU K (itV k x) (itV k y) H Q := by
  cases k with
  | false => exact r_eqUI h
  | true =>
    refine r_eqUS ?_
    have e : decide ((⟨#[x.toNat]⟩ : Str) = ⟨#[y.toNat]⟩) = decide (x = y) := by
      have h1 := hx rfl
      have h2 := hy rfl
      by_cases z : x = y
      · subst z; simp
      · rw [decide_eq_false z]
        refine decide_eq_false fun w => z ?_
        simp at w
        omega
    rw [e]; exact h
theorem q_nei {x y : Int} (hx : k = true → 0 ≤ x) (hy : k = true → 0 ≤ y) (h : Q (.bl (!decide (x = y))) H) : rNeU K (itV k x) (itV k y) H Q := by
  cases k with
  | false => exact r_neUI h
  | true =>
    refine r_neUS ?_
    have e : decide ((⟨#[x.toNat]⟩ : Str) = ⟨#[y.toNat]⟩) = decide (x = y) := by
      have h1 := hx rfl
      have h2 := hy rfl
      by_cases z : x = y
      · subst z; simp
      · rw [decide_eq_false z]
        refine decide_eq_false fun w => z ?_
        simp at w
        omega
    rw [e]; exact h
theorem newq_list {H' : Hp} {p : Addr} (hp : H p = none) (l : xs.length ≤ 100000) (e : H' p = some (.lst (xs.map V.int))) : NewQ H H' false (.ref p) xs :=
  ⟨⟨l, .inl ⟨rfl, p, rfl, e⟩⟩, fun a ea => by cases ea; exact hp⟩
theorem newq_str {H' : Hp} (l : xs.length ≤ 100000) (c : Cps xs) : NewQ H H' true (.str (sOf xs)) xs := ⟨⟨l, .inr ⟨rfl, rfl, c⟩⟩, fun a ea => nomatch ea⟩
/-- a new list of ints at p, laid -/
theorem q_new {p : Addr} {vs : List V} (hp : H p = none) (l : xs.length ≤ 100000) (e : vs = xs.map V.int) : NewQ H (upd H p (.lst vs)) false (.ref p) xs := newq_list hp l (by rw [upd_same, e])
theorem Cps.sub {xs ys : List Int} (c : Cps xs) (h : ∀ x ∈ ys, x ∈ xs) : Cps ys := fun x hx => c x (h x hx)
/-- v[lo:hi] -/
theorem q_sl {lo hi : Option Int} {a b : Nat} (q : IsQ H k v xs) (ha : HT.sIx xs.length 0 lo = a) (hb : HT.sIx xs.length xs.length hi = b) (h : ∀ v' H', Same H H' → NewQ H H' k v' ((xs.drop a).take (b - a)) → Q v' H') : rSlU K v lo hi H Q := by
  have hl : ((xs.drop a).take (b - a)).length ≤ 100000 := by
    rw [List.length_take, List.length_drop]
    have := q.1
    omega
  obtain ⟨l, ⟨rfl, p, rfl, e⟩ | ⟨rfl, rfl, c⟩⟩ := q
  · refine r_slUL (ql e) fun p hp => h _ _ (same_new hp) (q_new hp hl ?_)
    unfold cutV
    rw [List.length_map, ha, hb, List.map_take, List.map_drop]
  · refine r_slUS (by rw [sOf_len]; exact small_line (by omega)) ?_
    have e : cutS (sOf xs) lo hi = sOf ((xs.drop a).take (b - a)) := by
      unfold cutS
      rw [sOf_len, ha, hb, sOf_list]
      unfold sOf
      rw [List.map_take, List.map_drop]
    rw [e]
    exact h _ _ (Same.refl H) (newq_str hl (c.sub fun x hx => List.mem_of_mem_drop (List.mem_of_mem_take hx)))
theorem q_rev {te : TE} {σ : S} (h : te σ H fun w H1 => IsQ H1 k w xs ∧ ∀ v' H', Same H1 H' → NewQ H1 H' k v' xs.reverse → Q v' H') : k = k → (∀ (P P' : VK), (∀ w H1, P w H1 → P' w H1) → te σ H P → te σ H P') → tRevU K te σ H Q := fun _ mono => by
  cases k with
  | false =>
    refine .inl (mono _ _ (fun w H1 ⟨q, h⟩ => ?_) h)
    obtain ⟨l, ⟨_, a, rfl, e⟩ | ⟨z, _⟩⟩ := q
    · exact ⟨a, _, rfl, ql e, fun p hp => h _ _ (same_new hp) (q_new hp (by rw [List.length_reverse]; exact l) (by rw [List.map_reverse]))⟩
    · cases z
  | true =>
    refine .inr (mono _ _ (fun w H1 ⟨q, h⟩ => ?_) h)
    obtain ⟨l, ⟨z, _⟩ | ⟨_, rfl, c⟩⟩ := q
    · cases z
    · refine ⟨sOf xs, rfl, by rw [sOf_len]; exact small_line (by omega), ?_⟩
      have e : revS (sOf xs) = sOf xs.reverse := by
        unfold revS
        rw [sOf_list]
        unfold sOf
        rw [List.map_reverse]
      rw [e]
      exact h _ _ (Same.refl H1) (newq_str (by rw [List.length_reverse]; exact l) (c.sub fun x hx => List.mem_reverse.mp hx))
theorem q_add (q1 : IsQ H k v xs) (q2 : IsQ H k u ys) (hl : xs.length + ys.length ≤ 100000) (h : ∀ v' H', Same H H' → NewQ H H' k v' (xs ++ ys) → Q v' H') : rAddU K v u H Q := by
  have hl' : (xs ++ ys).length ≤ 100000 := by rw [List.length_append]; exact hl
  obtain ⟨l1, ⟨rfl, a, rfl, e1⟩ | ⟨rfl, rfl, c1⟩⟩ := q1
  · obtain ⟨l2, ⟨_, b, rfl, e2⟩ | ⟨z, _⟩⟩ := q2
    · exact r_addUL e1 e2 (by rw [List.length_map, List.length_map]; exact small_line (by omega)) fun p hp => h _ _ (same_new hp) (q_new hp hl' (by rw [List.map_append]))
    · cases z
  · obtain ⟨l2, ⟨z, _⟩ | ⟨_, rfl, c2⟩⟩ := q2
    · cases z
    · refine r_addUS (by rw [sOf_len, sOf_len]; exact small_line (by omega)) ?_
      rw [sOf_append]
      exact h _ _ (Same.refl H) (newq_str hl' fun x hx => (List.mem_append.mp hx).elim (c1 x) (c2 x))
theorem q_eq (q1 : IsQ H k v xs) (q2 : IsQ H k u ys) (c1 : k = true → ∀ x ∈ xs, x < 0x110000) (c2 : k = true → ∀ x ∈ ys, x < 0x110000) (h : Q (.bl (decide (xs = ys))) H) : rEqU K v u H Q :=
  r_eqUD q1.dp q2.dp (dq_shaped c1) (dq_shaped c2) (by rw [dq_eqv q1.cps q2.cps]; exact h)
theorem q_ne (q1 : IsQ H k v xs) (q2 : IsQ H k u ys) (c1 : k = true → ∀ x ∈ xs, x < 0x110000) (c2 : k = true → ∀ x ∈ ys, x < 0x110000) (h : Q (.bl (!decide (xs = ys))) H) : rNeU K v u H Q :=
  r_neUD q1.dp q2.dp (dq_shaped c1) (dq_shaped c2) (by rw [dq_eqv q1.cps q2.cps]; exact h)
/-- for a, b in zip(v, u) -/
theorem q_zip {ta : TA} {R : It → Hp → Prop} {σ : S} (h : ta σ H fun vs H1 => ∃ v u, vs = [v, u] ∧ IsQ H1 k v xs ∧ IsQ H1 k u ys ∧ ∀ J : It, Walk J (min xs.length ys.length) (fun H => IsQ H k v xs ∧ IsQ H k u ys) (YPair (fun i => (xs[i]?).map (itV k)) fun i => (ys[i]?).map (itV k)) → R J H1)
    (mono : ∀ (P P' : List V → Hp → Prop), (∀ w H1, P w H1 → P' w H1) → ta σ H P → ta σ H P') : iZipU K ta σ H R := by
  cases k with
  | false =>
    refine .inl (mono _ _ (fun w H1 h => ?_) h)
    obtain ⟨v, u, rfl, q1, q2, g⟩ := h
    obtain ⟨l1, ⟨_, a, rfl, e1⟩ | ⟨z, _⟩⟩ := q1
    · obtain ⟨l2, ⟨_, b, rfl, e2⟩ | ⟨z, _⟩⟩ := q2
      · refine ⟨a, b, _, _, rfl, ql e1, ql e2, g _ ?_⟩
        have w := walk_zip (K := K) (a := a) (b := b) (xs := xs.map V.int) (ys := ys.map V.int) (n := min xs.length ys.length) (by rw [List.length_map, List.length_map])
        refine w.mono (fun H h => ?_) fun i H x H' _ _ y => ?_
        · obtain ⟨⟨_, ⟨_, a', ea, h1⟩ | ⟨z, _⟩⟩, ⟨_, ⟨_, b', eb, h2⟩ | ⟨z', _⟩⟩⟩ := h
          · cases ea; cases eb; exact ⟨ql h1, ql h2⟩
          · cases z'
          · cases z
          · cases z
        · obtain ⟨T, x1, x2, h1, h2, h3, h4, h5⟩ := y
          refine ⟨T, x1, x2, h1, h2, h3, ?_, ?_⟩
          · have z : (xs.map V.int)[i]? = some x1 := h4
            rw [List.getElem?_map] at z; exact z
          · have z : (ys.map V.int)[i]? = some x2 := h5
            rw [List.getElem?_map] at z; exact z
      · cases z
    · cases z
  | true =>
    refine .inr (mono _ _ (fun w H1 h => ?_) h)
    obtain ⟨v, u, rfl, q1, q2, g⟩ := h
    obtain ⟨l1, ⟨z, _⟩ | ⟨_, rfl, c1⟩⟩ := q1
    · cases z
    · obtain ⟨l2, ⟨z, _⟩ | ⟨_, rfl, c2⟩⟩ := q2
      · cases z
      · refine ⟨_, _, rfl, g _ ?_⟩
        have s1 : ∀ (zs : List Int) (i : Nat), sgn (sOf zs) i = (zs[i]?).map (itV true) := fun zs i => by
          unfold sgn
          rw [← Array.getElem?_toList, sOf_list, List.getElem?_map, Option.map_map]
          rfl
        have e1 : (sOf xs).cps.size = xs.length := sOf_len xs
        have e2 : (sOf ys).cps.size = ys.length := sOf_len ys
        rw [e1, e2]
        refine (walk_pairs (n := min xs.length ys.length) (f := sgn (sOf xs)) (g := sgn (sOf ys))).mono (fun _ _ => trivial) fun i H x H' _ _ y => ?_
        obtain ⟨T, x1, x2, h1, h2, h3, h4, h5⟩ := y
        exact ⟨T, x1, x2, h1, h2, h3, (s1 xs i).symm.trans h4, (s1 ys i).symm.trans h5⟩
end
end Px

namespace Px
open PySem PySem.Spec PyProof.Rows L2
/-! ### a law's end, by a contract that knows that no repr is under way -/
theorem hid_at {h : Heap} {H : Hp} {b : Addr} {o : Obj} (e : h.get? b = some o) (n : H b = none) : (hidT h H).get? b = some o := hidT_get e n
theorem law_core {P : Program} {w : World} {K : PySem.W.Frag} {mg mb : Str → Option Value} {k : Nat} {fa a : Addr} {fd : FuncData} {x : Str} {sp : Sp} {s₁ : Shared} {vs : List Value}
    (KX : K.In s₁.heap) (hns : s₁.heap.Ns mainGlobals mg) (hb : s₁.heap.Ns builtinsNs mb) (hbb : ∀ x : Str, x ≠ "__name__" → mb x = bootBuiltins x) (hlim : s₁.heap.NoLimit) (hg : s₁.gens = #[])
    (ha : s₁.heap.get? a = some { cls := .type "list", data := .seq vs.toArray }) (hr : Room k callerA)
    (F : ∀ base : Heap, K.In base → base.Ns mainGlobals mg → FnG P w K mg base CX0 k fa fd [x] sp) (hbind : ∀ (s : Shared) (u : Value), BindsTo s fd ⟨[u], []⟩ [(x, u)])
    (H : Hp) (hO : Only H) (hsp : sp [.ref a] H (fun v _ => v = .bl true) fun _ _ _ => False) (hok : HOk P w H s₁.heap) (hA : ∀ b, H b ≠ none → b = a) (hK : H a ≠ none → K.lookup a = none) :
    codeAny (model P w) callerA (.call (.ref fa) ⟨[.ref a], []⟩) (fun r s' => r = .ok (.ret (.bool true)) ∧ OldK s₁.heap s'.heap ∧ s'.os = s₁.os ∧ AllBare s'.gens) s₁ := by
  have only : ∀ {b : Addr} {o : Obj}, s₁.heap.get? b = some o → (b = a → False) → H b = none := fun {b o} e n => by
    cases q : H b with
    | none => rfl
    | some u => exact (n (hA b (by rw [q]; simp))).elim
  have noA : ∀ {b : Addr} {o : Obj} {es : Array DictEntry} {ep : Nat}, s₁.heap.get? b = some o → o.data = .dict es ep → H b = none := fun e d => only e fun z => by
    subst z
    rw [ha] at e
    cases e
    exact nomatch (show Data.seq vs.toArray _ = Data.dict _ _ from d)
  have nsK : ∀ {b : Addr} {m : Str → Option Value}, s₁.heap.Ns b m → (hidT s₁.heap H).Ns b m := fun ⟨o, es, ep, e, d, r⟩ => ⟨o, es, ep, hid_at e (noA e d), d, r⟩
  have hKb : K.In (hidT s₁.heap H) := fun b o e => hid_at (KX b o e) (by
    cases q : H b with
    | none => rfl
    | some u =>
      have e' : b = a := hA b (by rw [q]; simp)
      subst e'
      have z := hK (by rw [q]; simp)
      rw [z] at e
      cases e)
  have hM : Mod K mg (hidT s₁.heap H) := ⟨hKb, nsK hns, ⟨mb, nsK hb, hbb⟩, let ⟨mc, h1, h2⟩ := hlim; ⟨mc, nsK h1, h2⟩⟩
  have e0 : Env0 P w K mg (hidT s₁.heap H) callerA [] s₁ H := ⟨rfl, hM, fun b o e => of_hidT e, Nat.le_of_eq (hidT_size _ _), trivial, fun b hb => absurd (show b ∈ ([] : List Addr) from hb) (by simp), hok, .of_eq hg⟩
  have go := (F _ hKb (nsK hns)).run callerA [] s₁ H ⟨[.ref a], []⟩ [.ref a] [.ref a] _ _ rfl hr e0 (hbind s₁ (.ref a)) (.cons rfl .nil) hsp
  refine codeAny_mono go fun r s' h => ?_
  match r, h with
  | .error _, h => exact h.elim
  | .ok .next, h => exact h.elim
  | .ok .brk, h => exact h.elim
  | .ok .cont, h => exact h.elim
  | .ok (.ret u), ⟨v, H', os, bare, un, hok', r', q⟩ =>
    have q' : v = .bl true := q
    subst q'
    obtain rfl : u = Value.bool true := r'
    refine ⟨rfl, OldK.of_keep fun b o e => ?_, os, bare⟩
    rcases hO b with z | ⟨ob, xs, z⟩
    · exact un.keep b o e z (fun m => absurd (show b ∈ ([] : List Addr) from m) List.not_mem_nil) List.not_mem_nil
    · have h1 := (hok b _ z).1
      have h2 := (hok' b _ (un.frzs b ob _ z)).1
      rw [e] at h1
      cases h1
      exact h2
theorem law_go {P : Program} {w : World} {K : PySem.W.Frag} {mg mb : Str → Option Value} {k : Nat} {fa a : Addr} {fd : FuncData} {x : Str} {sp : Sp} {s₁ : Shared} {vs : List Value} {ns : List Int}
    (KX : K.In s₁.heap) (hns : s₁.heap.Ns mainGlobals mg) (hb : s₁.heap.Ns builtinsNs mb) (hbb : ∀ x : Str, x ≠ "__name__" → mb x = bootBuiltins x) (hlim : s₁.heap.NoLimit) (hg : s₁.gens = #[])
    (ha : s₁.heap.get? a = some { cls := .type "list", data := .seq vs.toArray }) (hi : IntsAre vs ns) (hl : ns.length ≤ sizeLine) (hr : Room k callerA)
    (F : ∀ base : Heap, K.In base → base.Ns mainGlobals mg → FnG P w K mg base CX0 k fa fd [x] sp) (hbind : ∀ (s : Shared) (u : Value), BindsTo s fd ⟨[u], []⟩ [(x, u)])
    (hsp : ∀ H : Hp, Only H → SqL K H a (ns.map V.int) → sp [.ref a] H (fun v _ => v = .bl true) fun _ _ _ => False) :
    codeAny (model P w) callerA (.call (.ref fa) ⟨[.ref a], []⟩) (fun r s' => r = .ok (.ret (.bool true)) ∧ OldK s₁.heap s'.heap ∧ s'.os = s₁.os ∧ AllBare s'.gens) s₁ := by
  have rv := vals_ints hi
  have core := law_core (mb := mb) KX hns hb hbb hlim hg ha hr F hbind
  cases hk : K.lookup a with
  | some o =>
    have e := KX a o hk
    rw [ha] at e
    cases e
    have hO : Only fun _ => none := fun _ => .inl rfl
    exact core _ hO (hsp _ hO (.inr ⟨_, vs.toArray, _, hk, rfl, rfl, rfl, by rw [List.size_toArray, hi.length]; exact hl, by simpa using rv⟩)) (fun b u z => nomatch (show (none : Option HO) = some u from z)) (fun b z => absurd rfl z) fun z => absurd rfl z
  | none =>
    let H0 : Hp := upd (fun _ => none) a (.frz { cls := .type "list", data := .seq vs.toArray } (.lst (ns.map V.int)))
    have at0 : ∀ b, b ≠ a → H0 b = none := fun b n => upd_ne n
    have hO : Only H0 := fun b => by
      by_cases q : b = a
      · subst q; exact .inr ⟨_, _, upd_same⟩
      · exact .inl (at0 b q)
    refine core H0 hO (hsp _ hO (.inl (.inr ⟨_, upd_same⟩))) (fun b u z => ?_) (fun b z => ?_) fun _ => hk
    · by_cases q : b = a
      · subst q
        have z' : HO.frz _ _ = u := Option.some.inj (upd_same.symm.trans z)
        subst z'
        exact ⟨ha, by rw [List.length_map]; exact hl, vs, _, rv, ha⟩
      · exact nomatch ((at0 b q).symm.trans z)
    · by_cases q : b = a
      · exact q
      · exact absurd (at0 b q) z
theorem walk_G {l : PySem.W.OpenLaw} {n k : Nat} {q : Program} {loose : List Str} {XP : (Str → Option Value) → Heap → Prop} {YP : World → Heap → Prop} {d : DefRec} {x : Str}
    (hn : l.most = some n) (hn2 : n ≤ sizeLine) (hdf : d.params.defaults = []) (hr : Room k callerA)
    (F : ∀ (w : World) (mg : Str → Option Value) (fa : Addr) (h : Heap), YP w h → h.Ns mainGlobals mg → mg d.name = some (.ref fa) →
      ∃ (K : PySem.W.Frag) (fd : FuncData) (sp : Sp), K.In h ∧ (∀ (s : Shared) (u : Value), BindsTo s fd ⟨[u], []⟩ [(x, u)]) ∧
        (∀ (H : Hp) (a : Addr) (ns : List Int), ns.length ≤ n → Only H → SqL K H a (ns.map V.int) → sp [.ref a] H (fun v _ => v = .bl true) fun _ _ _ => False) ∧
        ∀ base : Heap, K.In base → base.Ns mainGlobals mg → FnG l.prog w K mg base CX0 k fa fd [x] sp) :
    PySem.W.WalkO q loose XP YP l.row.toRowW d [] (fun f vs => PySem.call f vs) := by
  refine Att.attach_call hn hdf fun w s₀ s₁ mg mb fa o pm cd doc a vs ns G Y ho hd hcd hmg hobj hints hlen hg => ?_
  obtain ⟨K, fd, sp, KX, hb, hsp, hF⟩ := F w mg fa _ Y G.T.g hmg
  exact law_go KX G.T.g G.T.b G.T.builtins G.T.nolimit hg hobj hints (Nat.le_trans hlen hn2) hr hF hb fun H hO hS => hsp H a ns hlen hO hS
end Px

namespace Px
open PySem PySem.Spec PyProof.Rows L2 PySem.W
/-- n's last eight binary digits, as signs -/
def bin8 (n : Nat) : Str := ⟨#[48 + n / 128 % 2, 48 + n / 64 % 2, 48 + n / 32 % 2, 48 + n / 16 % 2, 48 + n / 8 % 2, 48 + n / 4 % 2, 48 + n / 2 % 2, 48 + n % 2]⟩
theorem fmt08b {n : Nat} (hn : n < 256) (t u : Tok) : Meets (Builtin.«int.__format__» ⟨[.int (n : Int) t, .str (PySem.Str.ofString "08b") u], []⟩) (fun _ R s => ∀ t' k, R (.ok (.ret (.str (bin8 n) t'))) { s with toks := k }) := by
  apply KPc.meets_of
  intro _ _ _ _ _ _ hq
  unfold Builtin.«int.__format__»
  refine wpAny_bind (wpAny_of_eq (a := (_, _)) rfl ?_)
  refine wpAny_bind (wpAny_of_eq (a := _) rfl ?_)
  kxf_if
  refine wpAny_bind (wpAny_typeNameOf (T := "str") (typeIs_str _ _ _) (by decide) fun _ => ?_)
  refine wpAny_bind (wpAny_of_eq (a := some _) rfl ?_)
  kxf_if
  kxf_if
  refine wpAny_bind (wpAny_typeNameOfCut_int ?_)
  (repeat kxf_if)
  refine KXf.ret_text ?he ?hl hq
  · clear hq
    revert n
    decide +kernel
  · clear hq
    revert n
    decide +kernel
def hexSign (d : Nat) : Nat := if d < 10 then 48 + d else 55 + d
/-- two hexadecimal digits, as signs -/
def hex2 (n : Nat) : Str := ⟨#[hexSign (n / 16), hexSign (n % 16)]⟩
theorem fmt02X {n : Nat} (hn : n < 256) (t u : Tok) : Meets (Builtin.«int.__format__» ⟨[.int (n : Int) t, .str (PySem.Str.ofString "02X") u], []⟩) (fun _ R s => ∀ t' k, R (.ok (.ret (.str (hex2 n) t'))) { s with toks := k }) := by
  apply KPc.meets_of
  intro _ _ _ _ _ _ hq
  unfold Builtin.«int.__format__»
  refine wpAny_bind (wpAny_of_eq (a := (_, _)) rfl ?_)
  refine wpAny_bind (wpAny_of_eq (a := _) rfl ?_)
  kxf_if
  refine wpAny_bind (wpAny_typeNameOf (T := "str") (typeIs_str _ _ _) (by decide) fun _ => ?_)
  refine wpAny_bind (wpAny_of_eq (a := some _) rfl ?_)
  kxf_if
  kxf_if
  refine wpAny_bind (wpAny_typeNameOfCut_int ?_)
  (repeat kxf_if)
  refine KXf.ret_text ?he ?hl hq
  · clear hq
    revert n
    decide +kernel
  · clear hq
    revert n
    decide +kernel
/-- {e:spec}, e a number below 256 -/
def tFmtB (g : Nat → Str) (te : TE) : TE := fun σ H Q => te σ H fun x H1 => ∃ n : Nat, x = .int n ∧ n < 256 ∧ Q (.str (g n)) H1
section
variable {X : Cx}
theorem pe_fmtB {e : Expr} {te : TE} {pos p1 p2 : Pos} {k : Nat} {spec : Str} {g : Nat → Str} (he : PE X e te) (hne : (spec.length == 0) = false) (hsz : spec.length ≤ sizeLine)
    (hg : ∀ n : Nat, n < 256 → ∀ t u, Meets (Builtin.«int.__format__» ⟨[.int (n : Int) t, .str spec u], []⟩) (fun _ R s => ∀ t' k, R (.ok (.ret (.str (g n) t'))) { s with toks := k })) :
    PE X (.FormattedValue e (-1) (some (.JoinedStr [.Constant (.str spec) k p1] p2)) pos) (tFmtB g te) := by
  refine ⟨fun pins s σ H Q I h => ?_⟩
  refine wpAny_FormattedValue_spec (thn (he.run pins s σ H _ I h) fun v s1 hv => ?_)
  obtain ⟨x, H1, I1, r1, n, rfl, hn, q⟩ := hv
  obtain ⟨t, rfl⟩ := r1
  refine wpAny_JoinedStr_one ?_
  refine thn ((pe_str (X := X) (x := spec)).run pins s1 σ H1 _ I1 (show tC (.str spec) σ H1 fun y H2 => y = .str spec ∧ H2 = H1 from ⟨rfl, rfl⟩)) fun r s2 h2 => ?_
  obtain ⟨y, H2, I2, r2, rfl, rfl⟩ := h2
  obtain ⟨tk, rfl⟩ := r2
  refine ⟨spec, tk, rfl, ?_⟩
  exact KXf.field_int rfl hne hsz (hg n hn t) fun t' k => ⟨.str (g n), H2, I2.tok k, ⟨_, rfl⟩, q⟩
end
end Px

namespace Px
open PySem PySem.Spec PyProof.Rows L2
/-! ### int(t, 2) -/
namespace Bn
open PySem.NumText PySem.Calls
def IsBit (c : Nat) : Prop := c = 48 ∨ c = 49
def binNum (l : List Nat) : Nat := l.foldl (fun a c => a * 2 + (c - 48)) 0
theorem toHex {c : Nat} (h : IsBit c) : L2.Hx.IsHex c := .inl (by rcases h with rfl | rfl <;> exact ⟨by decide, by decide⟩)
theorem dig {c : Nat} (h : IsBit c) : digit? c = some (c - 48) := by rcases h with rfl | rfl <;> rfl
theorem step2 {ds : Array Nat} {b : Bool} {c : Nat} (h : IsBit c) : PySem.NumText.step 2 (ds, b) c = some (ds.push (c - 48), true) := by rcases h with rfl | rfl <;> rfl
theorem fold2 : ∀ (cs : List Nat) (ds : Array Nat), (∀ c ∈ cs, IsBit c) → cs.foldlM (PySem.NumText.step 2) (ds, true) = some (cs.foldl (fun acc c => acc.push (c - 48)) ds, true)
  | [], _, _ => rfl
  | c :: cs, ds, h => by
    rw [List.foldlM_cons, step2 (h c (List.mem_cons_self ..))]
    exact fold2 cs (ds.push (c - 48)) fun d hd => h d (List.mem_cons_of_mem _ hd)
theorem digits2 {cs : List Nat} (h : ∀ c ∈ cs, IsBit c) (hne : cs ≠ []) : digits? 2 cs = some (cs.foldl (fun acc c => acc.push (c - 48)) #[]) := by
  match cs, hne with
  | c :: cs, _ =>
    unfold digits?
    rw [List.foldlM_cons, step2 (h c (List.mem_cons_self ..))]
    show (List.foldlM (PySem.NumText.step 2) ((#[] : Array Nat).push (c - 48), true) cs).bind _ = _
    rw [fold2 cs _ fun d hd => h d (List.mem_cons_of_mem _ hd)]
    rfl
theorem push2 : ∀ (cs : List Nat) (ds : Array Nat), (cs.foldl (fun acc c => acc.push (c - 48)) ds).foldl (fun acc d => acc * 2 + d) 0 = cs.foldl (fun a c => a * 2 + (c - 48)) (ds.foldl (fun acc d => acc * 2 + d) 0)
  | [], _ => rfl
  | c :: cs, ds => by
    rw [List.foldl_cons, push2 cs (ds.push (c - 48)), List.foldl_cons]
    simp
theorem based2 {cs : List Nat} (h : ∀ c ∈ cs, IsBit c) : based 2 cs = (2, false, cs) := by
  match cs, h with
  | [], _ => rfl
  | [a], h => rcases h a (by simp) with rfl | rfl <;> rfl
  | a :: c :: r, h =>
    rcases h a (by simp) with rfl | rfl <;> rcases h c (by simp) with rfl | rfl <;> rfl
theorem read2 {cs : List Nat} (h : ∀ c ∈ cs, IsBit c) (hne : cs ≠ []) : (int_private% "readNumeral") 0 2 cs = (int_private% "Numeral.value") ((binNum cs : Nat) : Int) := by
  have hx : ∀ c ∈ cs, L2.Hx.IsHex c := fun c hc => toHex (h c hc)
  refine (readNumeral_eq 0 2 cs).trans ?_
  rw [L2.Hx.dropB hx, L2.Hx.signH hx]
  show judge 0 false (based 2 cs).1 (based 2 cs).2.1 (digits? (based 2 cs).1 (((based 2 cs).2.2.reverse.dropWhile blank).reverse)) = _
  rw [based2 h]
  show judge 0 false 2 false (digits? 2 ((cs.reverse.dropWhile blank).reverse)) = _
  rw [L2.Hx.dropB (cs := cs.reverse) fun c hc => hx c (List.mem_reverse.mp hc), List.reverse_reverse, digits2 h hne]
  show (int_private% "Numeral.value") (((cs.foldl (fun acc c => acc.push (c - 48)) (#[] : Array Nat)).foldl (fun acc d => acc * 2 + d) 0 : Nat) : Int) = _
  rw [push2]
  rfl
set_option maxHeartbeats 4000000 in
theorem gives2 {x : PySem.Str} {u t : Tok} (hl : x.length ≤ 640) (h : ∀ c ∈ x.cps.toList, IsBit c) (hne : x.cps.toList ≠ []) :
    Gives (Builtin.«int.__new__» ⟨[.type "int", .str x u, .int 2 t], []⟩) (.int ((binNum x.cps.toList : Nat) : Int)) :=
  .of_wp fun M A E s Q hQ => by
    obtain ⟨hp, g, d, tk, os⟩ := s
    have c1 := F.conv_sub_int
    have c2 := F.madeHere_int
    have c3 : typeOf (.str x u) = pure (.type "str") := rfl
    obtain ⟨e1, e2⟩ := L2.Hx.seen_hex fun c hc => toHex (h c hc)
    have key : L2.Hx.Hid ((numSeenOf x).length ≤ 640 ∧ (int_private% "readNumeral") 0 2 (numSeenOf x) = (int_private% "Numeral.value") ((binNum x.cps.toList : Nat) : Int) ∧ ((numSeenOf x).length == (numTextOf x).length) = true) := by
      refine ⟨?_, ?_, ?_⟩
      · rw [e2, Array.length_toList]; exact hl
      · rw [e2]; exact read2 h hne
      · rw [e1, e2]; exact beq_self_eq_true _
    clear e1 e2 hl hne h
    repeat (any_goals (first
      | assumption
      | ((with_reducible show wpAny _ _ ((int_private% "intFromText") _ _ _) _ _ _);
          refine L2.Hx.wp_textB key.out.1 key.out.2.1 key.out.2.2 ?_)
      | wp_step))
    all_goals first | exact ⟨_, rfl, hQ⟩ | skip
end Bn
/-- int(t, 2) -/
def rIntBin : List V → Hp → VK → Prop := fun xs H Q => ∃ x : Str, xs = [.str x, .int 2] ∧ x.cps.toList ≠ [] ∧ x.length ≤ 640 ∧ (∀ c ∈ x.cps.toList, Bn.IsBit c) ∧ Q (.int ((Bn.binNum x.cps.toList : Nat) : Int)) H
theorem call_int_bin {X : Cx} : CallR X (.type "int") rIntBin := by
  intro pins s σ H xs us Q I r h
  obtain ⟨x, rfl, hne, hl, hx, q⟩ := h
  obtain ⟨u, w', rfl, r1, r2⟩ := vals2 r
  obtain ⟨t1, rfl⟩ := r1
  obtain ⟨t2, rfl⟩ := r2
  exact callType_new F.called_int F.newNe_int (L2.Hx.typeCall_int_2 _ _) (L2.Hx.newCall_int_2 _ _) (fun obj => F.initArgs_range_2 obj _ _) F.entry_int_new (Bn.gives2 hl hx hne).meets
    (show (Made.int ((Bn.binNum x.cps.toList : Nat) : Int)).post _ s from ⟨rfl, ⟨.int ((Bn.binNum x.cps.toList : Nat) : Int), H, I.tok _, ⟨_, rfl⟩, q⟩⟩)
end Px

namespace Px
open PySem PySem.Spec PyProof.Rows L2 PpSet
/-! ### sets of texts; len({x for x in text}) -/
/-- the members so far, and one more -/
def putT (l : List Str) (k : Str) : List Str := if k ∈ l then l else k :: l
def SetT (P : Program) (w : World) (h : Heap) (a : Addr) (l : List Str) : Prop := h.SetOf (strKind P w) a (fun k => decide (k ∈ l)) l.length
theorem setOf_at {P : Program} {w : World} {h h' : Heap} {a : Addr} {S : Str → Bool} {n : Nat} (R : h.SetOf (strKind P w) a S n) (k : ∀ o, h.get? a = some o → h'.get? a = some o) : h'.SetOf (strKind P w) a S n := by
  obtain ⟨o, es, ep, t, ho, r⟩ := R
  exact ⟨o, es, ep, t, k o ho, r⟩
theorem setOf_congr {P : Program} {w : World} {h : Heap} {a : Addr} {S S' : Str → Bool} {n n' : Nat} (R : h.SetOf (strKind P w) a S n) (e : ∀ k, S' k = S k) (en : n' = n) : h.SetOf (strKind P w) a S' n' := by
  have z : S' = S := funext e
  rw [z, en]
  exact R
def SetTO (P : Program) (w : World) (a : Addr) (l : List Str) : HO := .ext fun h => SetT P w h a l
theorem setTO_new {P : Program} {w : World} {H : Hp} {h : Heap} {a : Addr} {l : List Str} (R : SetT P w h a l) : ObjOk P w H h a (SetTO P w a l) := by
  have R' := R
  obtain ⟨o, _, _, _, ho, _⟩ := R'
  exact ⟨R, ⟨o, ho⟩, fun h1 h2 p k => setOf_at p k⟩
theorem setT_fresh {h : Heap} (P : Program) (w : World) (led : Bool) : SetT P w (h.push { cls := .type "set", dict := none, data := .set #[] 0 (.fresh 0 0 led) }) h.objs.size [] :=
  setOf_congr ((setObjOf_fresh (knd := strKind P w) led).setOf (Heap.get?_push_size _ rfl) (by decide)) (fun k => by simp) rfl
section
variable {X : Cx} {pins : List (Addr × Obj)} {σ : L2.St} {H : Hp} {s : Shared}
theorem setTO_get {a : Addr} {l : List Str} (I : Inv X pins σ H s) (ha : H a = some (SetTO X.prog X.w a l)) : SetT X.prog X.w s.heap a l := (I.hok a _ ha).1
theorem addT_ok {E : Value → Shared → Prop} {D : Addr} {l : List Str} {y : Str} {t : Tok} {Q : Value → Shared → Prop} (I : Inv X pins σ H s) (hD : H D = some (SetTO X.prog X.w D l)) (room : l.length + 1 < scanBound)
    (k : ∀ s', Inv X pins σ (upd H D (SetTO X.prog X.w D (putT l y))) s' → Q .none s') : wpAny (model X.prog X.w) X.A (call (.builtin "set.add") [.ref D, .str y t]) Q E s := by
  refine call_set_add (knd := strKind X.prog X.w) (k := y) (strKind_is _ _ _ _) rfl (setTO_get I hD) room fun h' sb new => ?_
  have new' : SetT X.prog X.w h' D (putT l y) := by
    refine setOf_congr new (fun j => ?_) ?_
    · unfold putT
      split
      · rename_i m
        by_cases e : j = y
        · subst e; simp [m]
        · simp [e]
      · by_cases e : j = y <;> simp [e]
    · unfold putT
      by_cases m : y ∈ l
      · rw [if_pos m, if_pos (decide_eq_true m)]
      · rw [if_neg m, if_neg (by simpa using m)]
        rfl
  have there : ∃ u, h'.get? D = some u := by
    obtain ⟨o, _, _, _, ho, _⟩ := new'
    exact ⟨o, ho⟩
  exact k _ (I.write (e := D) (t' := s.toks + 1) (by rw [hD]; trivial) (.inl rfl) (fun b u nb hu => (sb.2 b nb).trans hu) there (setTO_new new'))
end
section
variable {X : Cx}
/-- {elt for target in iter if ..}, elt a text: D the new set -/
def tScT (P : Program) (w : World) (wi : TI) (g : TG) (tt : TT) (te : TE) (vs : List Nat) : TE := fun σ H Q => wi σ H fun J H1 => ∀ D, H1 D = none →
  ∃ W : Nat → Nat → Hp → Prop, (∃ m, W 0 m (upd H1 D (SetTO P w D []))) ∧ ∀ i m H, W i m H → (J.stop i H ∧ Q (.ref D) H) ∨
    (J.go i H ∧ ∃ Nx : Hp → Prop, (∀ H', Nx H' → ∃ m', m' < m ∧ W (i + 1) m' H') ∧ ∀ x H', J.yld i H x H' →
      g x (wipe σ vs) H' fun σ2 H2 => wipe σ2 vs = wipe σ vs ∧ tt σ2 H2 fun b H3 =>
        if b = true then te σ2 H3 fun y H4 => ∃ (z : Str) (l : List Str), y = .str z ∧ H4 D = some (SetTO P w D l) ∧ l.length + 1 < scanBound ∧ Nx (upd H4 D (SetTO P w D (putT l z))) else Nx H3)
abbrev BlkAll (X : Cx) (scope : Scope) (p : Cx → Prop) : Prop := ∀ (s : Shared) (H : Hp) (C : Addr) (cl : List (PySem.Str × Addr)) (fp : List Addr), p (X.blk s H scope (compEnvC scope cl C X.env) fp)
theorem pe_scT {elt tg iter : Expr} {ifs : List Expr} {scope : Scope} {own : List (PySem.Str × Nat)} {pos : Pos} {wi : TI} {g : TG} {tt : TT} {te : TE} (hc : X.calm = true) (hN : X.N.Nodup) (hi : PI X tg iter wi)
    (ok : BlkOk X.N X.env.scope scope own) (hg : BlkAll X scope fun Y => PG Y tg g) (ht : BlkAll X scope fun Y => PTs Y ifs tt) (he : BlkAll X scope fun Y => PE Y elt te) (hs : ∀ x, foldedSetIterable iter X.env x = pure x := by intro _; rfl) :
    PE X (.SetComp elt [⟨tg, iter, ifs, 0⟩] scope pos) (tScT X.prog X.w wi g tt te (own.map (·.2))) := by
  refine ⟨fun pins s σ H Q I h => ?_⟩
  rw [eval_SetComp]
  have closed : ∀ y ∈ scope.names, y.2 = .free → ∃ c, X.env.cells.lookup y.1 = some c := by
    intro y hy e
    exact (ok.free y hy e).elim (fun k => I.ok.has _ (.inl k)) fun k => I.ok.has _ (.inr k)
  refine wpAny_comprehension_free (use := none) rfl hs (closure_ok closed) ok.kind (fun y hy e => by rw [ok.uniq y hy, e]) ?_
  refine thn (hi.run pins s σ H _ I h) fun _ s1 hx => thn hx ?_
  rintro _ s2 ⟨it, fp, tn, J, H2, rfl, I2, T, st2, f2, q⟩
  refine newSet_ok (newEnv_comp ?_)
  generalize hO : ({ cls := .type "set", dict := none, data := .set #[] 0 (.fresh 0 0 (!X.w.params.followText "set-order")) } : Obj) = O
  generalize hD : s2.heap.objs.size = D
  obtain ⟨W, ⟨m0, w0⟩, turn⟩ := q D (I2.hok.fresh (Nat.le_of_eq hD))
  have hO0 : ∀ {b : Addr} {o : Obj}, s2.heap.get? b = some o → (s2.heap.push O).get? b = some o := fun e => Heap.get?_push_of_some _ e
  generalize hH3 : upd H2 D (SetTO X.prog X.w D []) = H3 at w0
  generalize hs3 : ({ s2 with heap := s2.heap.push O } : Shared) = s3
  have hp3 : s3.heap = s2.heap.push O := by rw [← hs3]
  have I3 : Inv X pins σ H3 s3 := by
    subst hs3 hH3 hD hO
    exact I2.laid (t' := s2.toks) (fun b o e => Heap.get?_push_of_some _ e) (Nat.le_refl _) (setTO_new (setT_fresh X.prog X.w _))
  have low : ∀ b ∈ fp, b < D := fun b hb => by
    obtain ⟨o, e, _⟩ := T.obj _ _ st2 b hb
    rw [← hD]
    exact Heap.lt_size e
  have f3 : ∀ b ∈ fp, FpOk X pins H3 b ∧ b < s3.heap.objs.size := fun b hb => by
    have hlt := low b hb
    refine ⟨⟨?_, (f2 b hb).2⟩, ?_⟩
    · rw [← hH3, upd_ne (Nat.ne_of_lt hlt)]
      exact (f2 b hb).1
    · rw [hp3, Heap.size_push, hD]
      exact Nat.lt_succ_of_lt hlt
  have st3 : tn 0 s3.heap := T.keep _ _ _ st2 fun b _ o e => by rw [hp3]; exact hO0 e
  have I4 := block_start I3 ok hN f3
  have pg := hg s3 H3 s3.heap.objs.size (cellsFrom (s3.heap.objs.size + 1) scope.names (cloFrom X.env.cells scope.names [])) fp
  have pt := ht s3 H3 s3.heap.objs.size (cellsFrom (s3.heap.objs.size + 1) scope.names (cloFrom X.env.cells scope.names [])) fp
  have pe := he s3 H3 s3.heap.objs.size (cellsFrom (s3.heap.objs.size + 1) scope.names (cloFrom X.env.cells scope.names [])) fp
  show codeAny _ _ (.compStart (.SetComp elt [⟨tg, iter, ifs, 0⟩] scope pos) 0 (.ref it) (.ref D) (compEnvC scope (cellsFrom (s3.heap.objs.size + 1) scope.names (cloFrom X.env.cells scope.names [])) s3.heap.objs.size X.env))
    (compPost (model X.prog X.w) X.A X.xe none _ (.ref D) s3.heap.objs.size) { s3 with heap := pushCells (s3.heap.push { cls := .type "dict", data := .dict #[] }) scope.names }
  have cL : (compEnvC scope (cellsFrom (s3.heap.objs.size + 1) scope.names (cloFrom X.env.cells scope.names [])) s3.heap.objs.size X.env).locals = s3.heap.objs.size := rfl
  generalize compEnvC scope (cellsFrom (s3.heap.objs.size + 1) scope.names (cloFrom X.env.cells scope.names [])) s3.heap.objs.size X.env = ce at I4 pg pt pe cL ⊢
  have st4 : tn 0 (pushCells (s3.heap.push { cls := .type "dict", data := .dict #[] }) scope.names) := T.keep _ _ _ st3 fun b _ o e => pushCells_keeps _ _ _ _ (Heap.get?_push_of_some _ e)
  generalize hs4 : ({ s3 with heap := pushCells (s3.heap.push { cls := .type "dict", data := .dict #[] }) scope.names } : Shared) = s4 at I4 ⊢
  replace st4 : tn 0 s4.heap := by rw [← hs4]; exact st4
  have still : ∀ {σ' : L2.St} {H' : Hp} {s' : Shared}, Inv (X.blk s3 H3 scope ce fp) [] σ' H' s' → (∀ b ∈ fp, H' b = none) → ∀ b ∈ fp, FpOk (X.blk s3 H3 scope ce fp) [] H' b := by
    intro σ' H' s' I' hn b hb
    exact ⟨hn b hb, (I'.ok.exf b hb).1, I'.ok.exfs b hb, .inl hb, fun x c e => (I'.ok.exf b hb).2 x c e, fun p hp => absurd (show p ∈ ([] : List (Addr × Obj)) ++ [] from hp) (by simp)⟩
  refine codeAny_compStart_set ?_ (T.self X.A 0 _ _ _ st4 ?_)
  all_goals
    refine compLoopS_any (fun n s' => ∃ i H', Inv (X.blk s3 H3 scope ce fp) [] (wipe σ (own.map (·.2))) H' s' ∧ tn i s'.heap ∧ (∀ b ∈ fp, H' b = none) ∧ W i n H') ?_ m0 ⟨0, H3, I4, st4, fun b hb => (f3 b hb).1.1, w0⟩
    rintro n s5 ⟨i, H5, I5, st5, n5, w5⟩
    rcases turn i n H5 w5 with ⟨stop, qq⟩ | ⟨go, Nx, hNx, step⟩
    · refine thnF (T.done (X.blk s3 H3 scope ce fp) rfl rfl rfl hc i [] s5 _ H5 (fun _ _ => False) I5 (still I5 n5) st5 stop) ?_
      rintro r s6 ⟨rfl, I6⟩
      have I7 : Inv X pins σ H5 s6 := I3.call' (ch := fp) I6.os I6.base I6.hok I6.bare fun b hb =>
        let z := (f3 b hb).1
        ⟨z.2.2.2.1, z.2.1, z.2.2.2.2.1, z.2.2.2.2.2⟩
      have nC : H5 s3.heap.objs.size = none := by
        rw [← cL]
        exact I6.free
      obtain ⟨m, hn, _⟩ := I6.loc
      replace hn : s6.heap.Ns s3.heap.objs.size m := by rw [← cL]; exact hn
      obtain ⟨f0, f1, f2', f3', f4, f5⟩ := I3.fpOk (Nat.le_refl _) nC
      exact ⟨m, hn, fun h'' sb => ⟨.ref D, H5, I7.turned (t' := s6.toks) (fun b o hb e => (sb.2 b hb).trans e) f0 f1 f3' f4 f5, rfl, qq⟩⟩
    · refine thnF (T.item (X.blk s3 H3 scope ce fp) rfl rfl rfl hc i [] s5 _ H5 (fun _ _ => False) I5 (still I5 n5) st5 go) ?_
      rintro r s6 ⟨u, rfl, h6⟩
      refine thnF h6 ?_
      rintro _ s7 ⟨x, H7, I7, r7, y7, st7, n7⟩
      refine thnF (pg.run _ s7 _ H7 x u _ (I7.pinned (still I7 n7) (T.obj _ _ st7)) r7 (step x H7 y7)) ?_
      rintro _ s8 ⟨σ8, H8, I8, hw8, q8⟩
      refine thnF (pt.run _ s8 σ8 H8 _ I8 q8) ?_
      rintro b s9 ⟨H9, I9, q9⟩
      have fin : ∀ {s' : Shared} {H' : Hp}, Inv (X.blk s3 H3 scope ce fp) ([] ++ pinsAt fp s7.heap) σ8 H' s' → Nx H' →
          ∃ m, m < n ∧ ∃ i H', Inv (X.blk s3 H3 scope ce fp) [] (wipe σ (own.map (·.2))) H' s' ∧ tn i s'.heap ∧ (∀ b ∈ fp, H' b = none) ∧ W i m H' := by
        intro s' H' I' nx
        obtain ⟨m', hm, w'⟩ := hNx H' nx
        have kept : ∀ b ∈ fp, ∀ o, s7.heap.get? b = some o → s'.heap.get? b = some o ∧ H' b = none := by
          intro b hb o e
          have z := I'.pin (b, o) (List.mem_append_right _ (List.mem_append_right _ (mem_pinsAt hb e)))
          exact ⟨z.1, z.2.1⟩
        refine ⟨m', hm, i + 1, H', (I'.unpinned (pins := [])).weak (by rw [← hw8, wipe_length]) (fun j v e => ?_), T.keep _ _ _ st7 fun b hb o e => (kept b hb o e).1, ?_, w'⟩
        · rw [← hw8] at e
          exact (wipe_some e).1
        · intro b hb
          obtain ⟨o, e, _⟩ := T.obj _ _ st7 b hb
          exact (kept b hb o e).2
      cases b with
      | false => exact fin I9 q9
      | true =>
        refine thnF (pe.run _ s9 σ8 H9 _ I9 q9) ?_
        rintro z s10 ⟨yv, H10, I10, r10, zz, l0, rfl, hD10, room, nx⟩
        obtain ⟨tz, rfl⟩ := r10
        exact addT_ok (X := X.blk s3 H3 scope ce fp) I10 hD10 room fun s11 I11 => fin I11 nx
def rLenT (P : Program) (w : World) : List V → Hp → VK → Prop := fun xs H Q => ∃ a l, xs = [.ref a] ∧ H a = some (SetTO P w a l) ∧ Q (.int (l.length : Nat)) H
theorem call_lenT : CallR X (.builtin "len") (rLenT X.prog X.w) := by
  intro pins s σ H xs us Q I r h
  obtain ⟨a, l, rfl, ha, q⟩ := h
  cases r with
  | cons r0 r1 =>
    cases r1
    cases r0
    obtain ⟨o, es, ep, t, ho, hex, hd, _, _, hb, hf, hn⟩ := setTO_get I ha
    have big : scanBound < 2 ^ 62 := by decide
    refine call_len_set ho hex hd hf (by omega) ⟨.int (l.length : Nat), H, I.tok _, ⟨_, by rw [hn]⟩, q⟩
end
def uniq (l : List Nat) : List Str := l.foldl (fun a c => putT a ⟨#[c]⟩) []
theorem putT_len (l : List Str) (k : Str) : (putT l k).length ≤ l.length + 1 := by
  unfold putT
  split
  · omega
  · exact Nat.le_refl _
theorem uniq_take {l : List Nat} {i c : Nat} (h : l[i]? = some c) : uniq (l.take (i + 1)) = putT (uniq (l.take i)) ⟨#[c]⟩ := by
  unfold uniq
  rw [List.take_add_one, h, List.foldl_append]
  rfl
theorem uniq_len : ∀ (l : List Nat), (uniq l).length ≤ l.length := by
  intro l
  have h : ∀ (l : List Nat) (a : List Str), (l.foldl (fun a c => putT a ⟨#[c]⟩) a).length ≤ a.length + l.length := by
    intro l
    induction l with
    | nil => intro a; exact Nat.le_refl _
    | cons c r ih =>
      intro a
      have h1 := ih (putT a ⟨#[c]⟩)
      have h2 := putT_len a ⟨#[c]⟩
      simp only [List.foldl_cons, List.length_cons]
      omega
  have z := h l []
  rw [List.length_nil, Nat.zero_add] at z
  exact z
theorem uniq_mem : ∀ (l : List Nat) (c : Nat), (⟨#[c]⟩ : Str) ∈ uniq l ↔ c ∈ l := by
  have h : ∀ (l : List Nat) (a : List Str) (c : Nat), (⟨#[c]⟩ : Str) ∈ l.foldl (fun a c => putT a ⟨#[c]⟩) a ↔ ((⟨#[c]⟩ : Str) ∈ a ∨ c ∈ l) := by
    intro l
    induction l with
    | nil => intro a c; simp
    | cons d r ih =>
      intro a c
      simp only [List.foldl_cons, List.mem_cons]
      rw [ih]
      unfold putT
      split
      · rename_i m
        constructor
        · rintro (h | h)
          · exact .inl h
          · exact .inr (.inr h)
        · rintro (h | rfl | h)
          · exact .inl h
          · exact .inl m
          · exact .inr h
      · simp only [List.mem_cons, Str.mk.injEq, Array.mk.injEq, List.cons.injEq, and_true]
        constructor
        · rintro ((h | h) | h)
          · exact .inr (.inl h)
          · exact .inl h
          · exact .inr (.inr h)
        · rintro (h | h | h)
          · exact .inl (.inr h)
          · exact .inl (.inl h)
          · exact .inr h
  intro l c
  rw [show uniq l = l.foldl (fun a c => putT a ⟨#[c]⟩) [] from rfl, h]
  simp
/-- every sign once: as many members as signs -/
theorem uniq_nodup : ∀ {l : List Nat}, l.Nodup → (uniq l).length = l.length := by
  intro l
  have h : ∀ (r l : List Nat), (l ++ r).Nodup → (r.foldl (fun a c => putT a ⟨#[c]⟩) (uniq l)).length = (uniq l).length + r.length := by
    intro r
    induction r with
    | nil => intro l _; rfl
    | cons c r ih =>
      intro l n
      have n' : ((l ++ [c]) ++ r).Nodup := by simpa using n
      have hc : c ∉ l := fun m => by
        have := (List.nodup_append.mp n).2.2 c m c (by simp)
        exact this rfl
      have e : uniq (l ++ [c]) = putT (uniq l) ⟨#[c]⟩ := by
        unfold uniq
        rw [List.foldl_append]
        rfl
      have z := ih (l ++ [c]) n'
      rw [e] at z
      rw [List.foldl_cons, z]
      unfold putT
      rw [if_neg (fun m => hc ((uniq_mem l c).mp m))]
      simp only [List.length_cons]
      omega
  intro n
  have z := h l [] n
  simpa [uniq] using z
/-- len({x for x in e}), e a text; i: x's place -/
def tDist (i : Nat) (te : TE) : TE := fun σ H Q => i < σ.length ∧ te σ H fun v H1 => ∃ z : Str, v = .str z ∧ z.length ≤ 1000 ∧ ∀ H2, Same H1 H2 → Q (.int ((uniq z.cps.toList).length : Nat)) H2
theorem pe_distinct {X : Cx} {e : Expr} {i : Nat} {te : TE} (hm : ∀ (σ : L2.St) (H : Hp) (P P' : VK), (∀ w H1, P w H1 → P' w H1) → te σ H P → te σ H P')
    (h : PE X e (tCB (rLenT X.prog X.w) (tCons (tScT X.prog X.w (iSeqU X.K te) (gName i) tYes (tVar i) [i]) tNil))) : PE X e (tDist i te) := by
  refine ⟨fun pins s σ H Q I hq => h.run pins s σ H Q I ?_⟩
  obtain ⟨hi, hq⟩ := hq
  show iSeqU X.K te σ H _
  refine .inr (.inr (hm σ H _ _ ?_ hq))
  rintro v H1 ⟨z, rfl, hz, q⟩
  refine ⟨z, rfl, fun D hD => ?_⟩
  have hzl : z.cps.toList.length ≤ 1000 := by rw [Array.length_toList]; exact hz
  refine ⟨fun j m H => m = z.cps.size - j ∧ j ≤ z.cps.size ∧ H D = some (SetTO X.prog X.w D (uniq (z.cps.toList.take j))) ∧ Same H1 H, ⟨_, rfl, Nat.zero_le _, upd_same, same_new hD⟩, ?_⟩
  rintro j m H2 ⟨rfl, hj, hD2, s2⟩
  by_cases hlt : j < z.cps.size
  · refine .inr ⟨hlt, fun H' => j + 1 ≤ z.cps.size ∧ H' D = some (SetTO X.prog X.w D (uniq (z.cps.toList.take (j + 1)))) ∧ Same H1 H', fun H' p => ⟨_, by omega, rfl, p⟩, ?_⟩
    rintro x H' ⟨rfl, c, hc, rfl⟩
    have hw : i < (wipe σ [i]).length := by rw [wipe_length]; exact hi
    refine ⟨?_, _, by rw [List.getElem?_set_self hw], ?_⟩
    · simp [wipe, List.set_set]
    · have hc' : z.cps.toList[j]? = some c := by rw [Array.getElem?_toList]; exact hc
      refine ⟨⟨#[c]⟩, _, rfl, hD2, ?_, hlt, ?_, same_mut s2 hD⟩
      · have := uniq_len (z.cps.toList.take j)
        rw [List.length_take] at this
        have big : 2000 < scanBound := by decide
        omega
      · rw [upd_same, uniq_take hc']
  · have e : j = z.cps.size := by omega
    subst e
    refine .inl ⟨Nat.le_refl _, _, _, rfl, hD2, ?_⟩
    rw [List.take_of_length_le (by rw [Array.length_toList]; exact Nat.le_refl _)]
    exact q H2 s2
end Px

namespace Px
open PySem PySem.Spec PyProof.Rows L2
/-! ### a written dict of ints by ints -/
def intOf : Value → Option Int
  | .int i _ => some i
  | _ => none
def ents (l : List DictEntry) : List (Option Int × Int × Option Int) := l.map fun e => (intOf e.key, e.hash, intOf e.val)
def idB (K : PySem.W.Frag) (a : Addr) (kvs : List (Int × Int)) : Bool := match K.lookup a with
  | some ⟨.type c, none, .dict es _, sl⟩ => decide (c = "dict") && (sl.isEmpty && (!(a == sysModules) && decide (ents es.toList = kvs.map fun p => (some p.1, hashInt p.1, some p.2))))
  | _ => false
structure IDict (K : PySem.W.Frag) (a : Addr) (kvs : List (Int × Int)) : Prop where
  at_ : ∃ es n, K.lookup a = some ⟨.type "dict", none, .dict es n, #[]⟩ ∧ ents es.toList = kvs.map fun p => (some p.1, hashInt p.1, some p.2)
  low : (a == sysModules) = false
theorem idB_ok {K : PySem.W.Frag} {a : Addr} {kvs : List (Int × Int)} (h : idB K a kvs = true) : IDict K a kvs := by
  unfold idB at h
  split at h
  · rename_i c es n sl e
    simp only [Bool.and_eq_true, decide_eq_true_eq, Bool.not_eq_true'] at h
    obtain ⟨h1, h2, h3, h4⟩ := h
    subst h1
    rw [Array.isEmpty_iff.mp h2] at e
    exact ⟨⟨es, n, e, h4⟩, h3⟩
  · cases h
theorem intOf_some {v : Value} {i : Int} (h : intOf v = some i) : ∃ t, v = .int i t := by
  cases v with
  | int j t =>
    cases (show some j = some i from h)
    exact ⟨t, rfl⟩
  | _ => cases h
/-- the int at k -/
def atK (kvs : List (Int × Int)) (k : Int) : Option Int := (kvs.find? fun p => decide (p.1 = k)).map (·.2)
theorem ents_find (k : Int) : ∀ (l : List DictEntry) (kvs : List (Int × Int)), ents l = kvs.map (fun p => (some p.1, hashInt p.1, some p.2)) →
    (∀ e ∈ l, ∃ j t, e.key = .int j t ∧ e.hash = hashInt j) ∧ RelO ((atK kvs k).map V.int) ((l.find? fun e => Value.isInt k e.key).map (·.val))
  | [], [], _ => ⟨fun e he => (nomatch he), trivial⟩
  | [], _ :: _, h => by cases h
  | _ :: _, [], h => by cases h
  | e :: l, p :: kvs, h => by
    have h1 : (intOf e.key, e.hash, intOf e.val) :: ents l = (some p.1, hashInt p.1, some p.2) :: kvs.map (fun p => (some p.1, hashInt p.1, some p.2)) := h
    injection h1 with h2 h3
    simp only [Prod.mk.injEq] at h2
    obtain ⟨ek, eh, ev⟩ := h2
    obtain ⟨t, et⟩ := intOf_some ek
    obtain ⟨u, eu⟩ := intOf_some ev
    obtain ⟨i1, i2⟩ := ents_find k l kvs h3
    refine ⟨fun e' he' => ?_, ?_⟩
    · rcases List.mem_cons.mp he' with rfl | m
      · exact ⟨p.1, t, et, eh⟩
      · exact i1 e' m
    · unfold atK
      by_cases q : p.1 = k
      · rw [List.find?_cons_of_pos (by simpa using q), List.find?_cons_of_pos (by rw [et]; simp [Value.isInt, q])]
        show RelV (V.int p.2) e.val
        rw [eu]
        exact ⟨u, rfl⟩
      · rw [List.find?_cons_of_neg (by simpa using q), List.find?_cons_of_neg (by rw [et]; simp [Value.isInt, q])]
        exact i2
section
variable {X : Cx} {a : Addr} {kvs : List (Int × Int)}
theorem IDict.map (D : IDict X.K a kvs) {h : Heap} (I : X.K.In h) (k : Int) : ∃ f, h.MapOf (intKind X.prog X.w) a f ∧ RelO ((atK kvs k).map V.int) (f k) := by
  obtain ⟨es, n, e, q⟩ := D.at_
  obtain ⟨h1, h2⟩ := ents_find k es.toList kvs q
  refine ⟨fun k => findBy Value.isInt es k, ⟨_, es, n, I _ _ e, ⟨rfl, rfl, rfl⟩, rfl, fun e he => ?_, fun _ => rfl⟩, ?_⟩
  · obtain ⟨j, t, e1, e2⟩ := h1 e (Array.mem_toList_iff.mpr he)
    exact ⟨j, by rw [e1]; exact intKind_is _ _ _ _, e2⟩
  · show RelO _ ((es.find? fun e => Value.isInt k e.key).map (·.val))
    rw [← Array.find?_toList]
    exact h2
/-- k in D, D[k] -/
def rInID (kvs : List (Int × Int)) (a : Addr) (f : Bool → Bool) : R2 := fun x y H Q => ∃ k : Int, x = .int k ∧ y = .ref a ∧ Q (.bl (f (atK kvs k).isSome)) H
def rIxID (kvs : List (Int × Int)) (a : Addr) : R2 := fun x y H Q => ∃ k v : Int, x = .ref a ∧ y = .int k ∧ atK kvs k = some v ∧ Q (.int v) H
theorem relO_some {o : Option Int} {r : Option Value} (h : RelO (o.map V.int) r) : r.isSome = o.isSome := by
  cases o <;> cases r <;> first | rfl | exact h.elim
theorem op_inID (D : IDict X.K a kvs) : OpR X (compareOp .In) (rInID kvs a fun b => b) := by
  intro pins s σ H x y v u Q I rx ry h
  obtain ⟨k, rfl, rfl, q⟩ := h
  obtain ⟨t, rfl⟩ := rx
  cases ry
  obtain ⟨f, hm, r⟩ := D.map I.kIn k
  refine wpAny_in_of (knd := intKind X.prog X.w) (intKind_is _ _ k t) D.low hm ?_
  rw [relO_some r]
  exact ⟨.bl (atK kvs k).isSome, H, I.tok _, rfl, q⟩
theorem op_notInID (D : IDict X.K a kvs) : OpR X (compareOp .NotIn) (rInID kvs a fun b => !b) := by
  intro pins s σ H x y v u Q I rx ry h
  obtain ⟨k, rfl, rfl, q⟩ := h
  obtain ⟨t, rfl⟩ := rx
  cases ry
  obtain ⟨f, hm, r⟩ := D.map I.kIn k
  refine wpAny_notIn_of (knd := intKind X.prog X.w) (intKind_is _ _ k t) D.low hm ?_
  rw [relO_some r]
  exact ⟨.bl (!(atK kvs k).isSome), H, I.tok _, rfl, q⟩
theorem op_ixID (D : IDict X.K a kvs) : OpR X getItem (rIxID kvs a) := by
  intro pins s σ H x y v u Q I rx ry h
  obtain ⟨k, z, rfl, rfl, e, q⟩ := h
  obtain ⟨t, rfl⟩ := ry
  cases rx
  obtain ⟨f, hm, r⟩ := D.map I.kIn k
  rw [e] at r
  cases hf : f k with
  | none => rw [hf] at r; exact r.elim
  | some w' =>
    rw [hf] at r
    exact wpAny_getItem_of (knd := intKind X.prog X.w) (intKind_is _ _ k t) hm hf ⟨.int z, H, I.tok _, r, q⟩
theorem idict_type (D : IDict X.K a kvs) {pins : List (Addr × Obj)} {σ : L2.St} {H : Hp} {s : Shared} (I : Inv X pins σ H s) : s.TypeIs (.ref a) "dict" := by
  obtain ⟨es, n, e, _⟩ := D.at_
  exact ⟨_, I.kIn _ _ e, rfl⟩
theorem pe_ixID {o i : Expr} {td ty : TE} {pos : Pos} (D : IDict X.K a kvs) (ho : PE X o td) (hi : PE X i ty) (hs : NoSl i) : PE X (.Subscript o i pos) (tOp (rIxID kvs a) td ty) := by
  refine ⟨fun pins s σ H Q I h => ?_⟩
  refine subD_of PySem.F.slot_dict_getitem.lookup hs (thn (ho.run pins s σ H _ I h) fun u s1 ⟨x, H1, I1, rx, q1⟩ => thn (hi.run pins s1 σ H1 _ I1 q1) fun iv s2 ⟨y, H2, I2, ry, q2⟩ => ?_)
  have q3 := q2
  obtain ⟨k, z, rfl, _⟩ := q3
  obtain rfl : u = Value.ref a := rx
  exact ⟨idict_type D I2, op_ixID D pins s2 σ H2 (.ref a) y (.ref a) iv Q I2 rfl ry q2⟩
/-! ### sizes of what is written -/
end
end Px

namespace Px
open PySem PySem.Spec PyProof.Rows L2 He
/-! ### the head's facts: defs at any path, facts as Bools -/
/-- a def: the way to it, name, qualified name, parameters, body, scope, defaults, keyword-only defaults -/
structure DefA where
  way : PySem.W.Frag → Addr
  nme : Str
  qul : Str
  par : Arguments
  bdy : List Stmt
  scp : Scope
  dfs : List Dv := []
  kws : List (Str × Dv) := []
def DefA.sees (K : PySem.W.Frag) (d : DefA) : FnW := match K.lookup (d.way K) with
  | some ⟨_, _, .func fd, _⟩ => some (fd.name, fd.qualname, fd.params, fd.body, fd.scope, fd.globals, fd.closure, fd.builtins)
  | _ => none
def DefA.due (d : DefA) : FnW := some (d.nme, d.qul, d.par, .stmts d.bdy, d.scp, mainGlobals, [], builtinsNs)
def DefA.dV (K : PySem.W.Frag) (d : DefA) : List V := d.dfs.map (Dv.v K)
def DefA.kV (K : PySem.W.Frag) (d : DefA) : List (Str × V) := d.kws.map fun q => (q.1, q.2.v K)
def DefA.good (K : PySem.W.Frag) (d : DefA) : Bool := PySem.W.keepIn K (.ref (d.way K)) && (match K.lookup (d.way K) with
  | some ⟨_, _, .func fd, _⟩ => PySem.W.codeIn K fd.code d.qul && dflB K fd.defaults (d.dV K) && kwdB K fd.kwdefaults (d.kV K)
  | _ => false)
theorem DefA.fun_ {K : PySem.W.Frag} {d : DefA} (e : d.sees K = d.due) (c : d.good K = true) : ∃ fd, FunD K d.nme d.qul d.par d.bdy d.scp (d.dV K) (d.kV K) (d.way K) fd := by
  unfold DefA.good at c
  unfold DefA.sees DefA.due at e
  obtain ⟨kp, c⟩ := ba c
  split at e
  · rename_i oc od fd osl q
    rw [q] at c
    obtain ⟨c, k3⟩ := ba c
    obtain ⟨k1, k2⟩ := ba c
    obtain ⟨n1, n2, n3, n4, n5, n6, n7, n8, n9, n10, n11, n12, n13, n14, n15⟩ := fd
    simp only [Option.some.injEq, Prod.mk.injEq] at e
    obtain ⟨h1, h2, h3, h4, h5, h6, h7, h8⟩ := e
    subst h1 h2 h3 h4 h5 h6 h7 h8
    exact ⟨_, ⟨oc, od, n8, n9, n10, n11, n12, n13, n14, osl, rfl, q, k1, dflB_ok k2, kwdB_ok k3⟩, kp⟩
  · cases e
abbrev Fact : Type := PySem.W.Frag → Bool
abbrev AlA : Type := Bool × List FnW
def obsA (fs : List Fact) (ds : List DefA) (K : PySem.W.Frag) : AlA := ((fs.all fun f => f K) && ds.all fun d => d.good K, ds.map fun d => d.sees K)
def valA (ds : List DefA) : AlA := (true, ds.map DefA.due)
def SaysA (fs : List Fact) (ds : List DefA) (K : PySem.W.Frag) : Prop := obsA fs ds K = valA ds
/-- what is looked at: what the module's names reach, and the statics -/
def obsAG (n : Nat) (fs : List Fact) (ds : List DefA) (g : Addr → Option Obj) : AlA := obsA fs ds (frG g (cStatics :: asD g n))
def hookA (n : Nat) (fs : List Fact) (ds : List DefA) : PySem.W.Hook where
  α := AlA
  obs := fun s => obsAG n fs ds s.heap.get?
  val := fun _ => valA ds
  says := fun _ h => ∃ K : PySem.W.Frag, K.In h ∧ SaysA fs ds K
  of := fun _ _ e => ⟨_, frG_in, e⟩
  keeps := fun _ _ _ ⟨K, hK, c⟩ k => ⟨K, PySem.W.Frag.In.keeps hK k, c⟩
theorem obsAG_eq {n : Nat} {fs : List Fact} {ds : List DefA} {g : Addr → Option Obj} {s : Shared} (h : ∀ a, g a = s.heap.get? a) : obsAG n fs ds g = (hookA n fs ds).obs s := by
  have e : g = s.heap.get? := funext h
  subst e
  rfl
section
variable {fs : List Fact} {ds : List DefA} {K : PySem.W.Frag}
theorem SaysA.fact (c : SaysA fs ds K) (i : Nat) {f : Fact} (h : fs[i]? = some f := by rfl) : f K = true := by
  have z : ((fs.all fun f => f K) && ds.all fun d => d.good K) = true := congrArg (fun z : AlA => z.1) c
  exact List.all_eq_true.mp (ba z).1 f (List.mem_of_getElem? h)
theorem SaysA.def_ (c : SaysA fs ds K) (i : Nat) {d : DefA} (h : ds[i]? = some d := by rfl) : ∃ fd, FunD K d.nme d.qul d.par d.bdy d.scp (d.dV K) (d.kV K) (d.way K) fd := by
  have z : ((fs.all fun f => f K) && ds.all fun d => d.good K) = true := congrArg (fun z : AlA => z.1) c
  have e : ds.map (fun d => d.sees K) = ds.map DefA.due := congrArg (fun z : AlA => z.2) c
  have e2 : (ds.map fun d => d.sees K)[i]? = (ds.map DefA.due)[i]? := by rw [e]
  rw [List.getElem?_map, List.getElem?_map, h] at e2
  exact DefA.fun_ (Option.some.inj e2) (List.all_eq_true.mp (ba z).2 d (List.mem_of_getElem? h))
end
/-! ### ways -/
def wGlo (x : Str) (K : PySem.W.Frag) : Addr := ga K x
def wMeth (C m : Str) (K : PySem.W.Frag) : Addr := ma K (ga K C) m
/-- a property's getter -/
def wGet (C f : Str) (K : PySem.W.Frag) : Addr := match PySem.W.recIn K (ma K (ga K C) f) "property" with
  | some (.ref g :: _) => g
  | _ => 0
/-! ### facts -/
def fFa (f : Fa) : Fact := fun K => f.ok K
def fProp (C f : Str) : Fact := fun K => eqO (PySem.W.findIn K (.ref (ga K C)) f) (some (some (.ref (ma K (ga K C) f)))) &&
  (eqO (PySem.W.specialIn K (.ref (ma K (ga K C) f)) "__get__") (some (some (.builtin "property.__get__"))) &&
    (decide (PySem.W.takesIn K (.ref (ma K (ga K C) f)) = some true) && (match PySem.W.recIn K (ma K (ga K C) f) "property" with
      | some (.ref _ :: _) => true
      | _ => false)))
theorem fProp_ok {C f : Str} {K : PySem.W.Frag} (h : fProp C f K = true) : PropOf K (ga K C) f (ma K (ga K C) f) (wGet C f K) := by
  obtain ⟨h1, h⟩ := ba h
  obtain ⟨h2, h⟩ := ba h
  obtain ⟨h3, h4⟩ := ba h
  refine ⟨eqO_ok h1, eqO_ok h2, of_decide_eq_true h3, ?_⟩
  unfold wGet
  split at h4
  · rename_i g l e
    exact ⟨l, by rw [e]⟩
  · cases h4
end Px
namespace Px
open PySem PySem.Spec PyProof.Rows L2 He
/-- attributes of the class C are read plainly; C.f is v -/
def fCRead (C : Str) : Fact := fun K => PySem.W.readsIn K (ga K C) (.type "type") && eqO (PySem.W.specialIn K (.ref (ga K C)) "__getattribute__") (some (some (.builtin "type.__getattribute__")))
theorem fCRead_ok {C : Str} {K : PySem.W.Frag} (h : fCRead C K = true) : ClX.CRead K (ga K C) (.type "type") := by
  obtain ⟨h1, h2⟩ := ba h
  exact ⟨h1, eqO_ok h2⟩
def fCVal (C f : Str) (v : Dv) : Fact := fun K => match PySem.W.findCls K (.ref (ga K C)) (.type "type") f with
  | some (.val u) => relB (v.v K) u
  | _ => false
theorem fCVal_ok {C f : Str} {v : Dv} {K : PySem.W.Frag} (h : fCVal C f v K = true) : ∃ u, ClX.CVal K (ga K C) (.type "type") f (v.v K) u := by
  unfold fCVal at h
  split at h
  · rename_i u e
    exact ⟨u, e, relB_ok h⟩
  · cases h
def fTup (x : Str) (vs : List Dv) : Fact := fun K => tupB K x vs
end Px

namespace Px
open PySem PySem.Spec PyProof.Rows L2
open PySem.Builtin PySem.Builtin.Str in
/-- x filled up on the right by c -/
def fillR (x : Str) (i : Int) (c : Nat) : Str := if i ≤ x.length then x else padded x 0 (i.toNat - x.length) c
section
open PySem.Builtin PySem.Builtin.Str
theorem gives_ljust3 (x : Str) (i : Int) (t u v : Tok) (c : Nat) (hr : (decide (i < -(2 ^ 63 : Int)) || decide (i ≥ 2 ^ 63)) = false) (hl : tooLong i.toNat = false) :
    Gives («str.ljust» ⟨[.str x t, .int i u, .str ⟨#[c]⟩ v], []⟩) (if i ≤ x.length then .val (.str x t) else .str (padded x 0 (i.toNat - x.length) c)) := by
  show Gives (do
    let w ← asSsize "str.ljust" (.int i u)
    if w ≤ x.length then (do rule "str.ljust.long-enough"; ret (.str x t)) else if tooLong w.toNat = true then unsupported "str.ljust:memory" else retStr (padded x 0 (w.toNat - x.length) c)) _
  rw [asSsize_int _ _ _ hr]
  show Gives (if i ≤ x.length then (do rule "str.ljust.long-enough"; ret (.str x t)) else if tooLong i.toNat = true then unsupported "str.ljust:memory" else retStr (padded x 0 (i.toNat - x.length) c)) _
  rw [hl]
  by_cases h : i ≤ (x.length : Int)
  · rw [if_pos h, if_pos h]
    exact .rule (.of_eq rfl)
  · rw [if_neg h, if_neg h]
    exact .of_eq rfl
end
def rLjust : V → List V → Hp → VK → Prop := fun x xs H Q => ∃ (a : Str) (i : Int) (c : Nat), x = .str a ∧ xs = [.int i, .str ⟨#[c]⟩] ∧ PadOk i = true ∧ Q (.str (fillR a i c)) H
theorem mt_ljustC {X : Cx} : MtR X "str.ljust" rLjust := by
  intro pins s σ H x xs v us Q I rx rs h
  obtain ⟨a, i, c, rfl, rfl, hp, h⟩ := h
  obtain ⟨t, rfl⟩ := rx
  obtain ⟨u1, u2, rfl, r1, r2⟩ := vals2 rs
  obtain ⟨t1, rfl⟩ := r1
  obtain ⟨t2, rfl⟩ := r2
  exact call_gives F.slot_str_ljust (typeIs_str _ _ _) F.entry_str_ljust (F.args_str_ljust_3 _ _ _) (gives_ljust3 a i t t1 t2 c (PadOk.parts hp).1 (PadOk.parts hp).2)
    (post_val_or_made (fits_padR c (PadOk.parts hp).2) fun t' k => ⟨.str (fillR a i c), H, I.tok k, ⟨t', rfl⟩, h⟩)
abbrev rLower : V → List V → Hp → VK → Prop := fun x xs H Q => ∃ a, x = .str a ∧ xs = [] ∧ a.length ≤ 5592405 ∧ Q (.str (Txt.lower a)) H
abbrev rSplit : V → List V → Hp → VK → Prop := fun x xs H Q => ∃ a b, x = .str a ∧ xs = [.str b] ∧ (b.length == 0) = false ∧ a.length + 2 ≤ sizeLine ∧ rNewStrs (Txt.split a b) H Q
end Px

namespace Px
open PySem PySem.Spec PyProof.Rows L2
/-! ### steps for the readings of classes, kinds, formats -/
/-- int(x) of an int or a bool -/
abbrev rInt1 : List V → Hp → VK → Prop := fun xs H Q => (∃ i, xs = [.int i] ∧ Q (.int i) H) ∨ ∃ k : Bool, xs = [.bl k] ∧ Q (.int (if k then 1 else 0)) H
section
variable {K : PySem.W.Frag} {σ : S} {H : Hp} {Q : VK} {D : Ends} {ta tb te : TE} {tr tk : TA} {E : XK} {i j : Int} {f : Str} {C : Addr} {sp : Sp}
theorem r_fld (h : ta σ H fun x H1 => ∃ a C dx fs v, x = .ref a ∧ H1 a = some (.ins C dx fs) ∧ Cls K C ∧ NoAttr K C f ∧ fs.lookup f = some v ∧ Q v H1) : tFld K ta f σ H Q := h
theorem r_sfld {tv : TE} (h : tv σ H fun y H1 => ta σ H1 fun x H2 => ∃ a C dx fs, x = .ref a ∧ H2 a = some (.ins C dx fs) ∧ Cls K C ∧ NoAttr K C f ∧ fs.length < 1000 ∧ D.nx σ (upd H2 a (.ins C dx (putF f y fs)))) : sFld K ta tv f D σ H := h
theorem r_cval (h : ta σ H fun x H1 => ∃ C mc v u, x = .ref C ∧ ClX.CRead K C mc ∧ ClX.CVal K C mc f v u ∧ Q v H1) : ClX.tCVal K ta f σ H Q := h
theorem r_meth {m : Str} {dvs : List V} (h : ta σ H fun x H1 => ∃ a dx fs, x = .ref a ∧ H1 a = some (.ins C dx fs) ∧ fs.lookup m = none ∧ tr σ H1 fun vs H2 => sp (x :: (vs ++ dvs)) H2 Q E) : tMeth C m sp dvs E ta tr σ H Q := h
theorem r_makeK {n m : Nat} {gV : List V → List V → List V} (h : tr σ H fun vs H1 => tk σ H1 fun zs H2 => vs.length = n ∧ zs.length = m ∧ ∀ x dx, H2 x = none → H2 dx = none → dx ≠ x →
    sp (gV (.ref x :: vs) zs) (upd (upd H2 dx (.own x)) x (.ins C dx [])) (fun v H3 => v = .non ∧ Q (.ref x) H3) E) : tMakeK C n m sp gV E tr tk σ H Q := h
theorem r_fmtB {g : Nat → Str} (h : te σ H fun x H1 => ∃ n : Nat, x = .int n ∧ n < 256 ∧ Q (.str (g n)) H1) : tFmtB g te σ H Q := h
theorem r_dist {k : Nat} (h0 : k < σ.length) (h : te σ H fun v H1 => ∃ z : Str, v = .str z ∧ z.length ≤ 1000 ∧ ∀ H2, Same H1 H2 → Q (.int ((uniq z.cps.toList).length : Nat)) H2) : tDist k te σ H Q := ⟨h0, h⟩
theorem r_m0 {r : V → List V → Hp → VK → Prop} (h : ta σ H fun x H1 => (∃ a, x = .str a) ∧ r x [] H1 Q) : tM0 r ta σ H Q := h
theorem r_dget (h : ta σ H fun x H1 => tb σ H1 fun y H2 => ∃ a v, x = .ref a ∧ DGet H2 a y (some v) ∧ Q v H2) : tDGet ta tb σ H Q := h
theorem r_isiB {x : V} {t c : String} {b : Bool} (h1 : TyOf K H x (.type t)) (h2 : kitB t c = some b) (h : Q (.bl b) H) : rIsi K [x, .ty c] H Q := r_isi (.ty c) (.base h1) (kit_ty h2) h
theorem r_isiI (h : Q (.bl true) H) : rIsi K [.int i, .ty "int"] H Q := r_isiB (.int i) (by decide +kernel) h
theorem r_isiIB (h : Q (.bl false) H) : rIsi K [.int i, .ty "bool"] H Q := r_isiB (.int i) (by decide +kernel) h
theorem r_isiS {z : Str} (h : Q (.bl true) H) : rIsi K [.str z, .ty "str"] H Q := r_isiB (.str z) (by decide +kernel) h
theorem r_isiBB {b : Bool} (h : Q (.bl true) H) : rIsi K [.bl b, .ty "bool"] H Q := r_isiB (.bl b) (by decide +kernel) h
theorem r_isiTL {p t : Addr} {xs : List V} (h1 : H p = some (.lst xs)) (h2 : H t = some (.tup [.ty "list", .ty "tuple"])) (h : Q (.bl true) H) : rIsiT K [.ref p, .ref t] H Q :=
  ⟨.ref p, t, _, .type "list", _, true, rfl, h2, .cons (.ty "list") (.cons (.ty "tuple") .nil), .base (.lst h1), kitAny_cons (b := true) (kit_ty (by decide +kernel)) (fun z => by cases z) (fun _ => rfl), h⟩
theorem r_isiTT {p t : Addr} {xs : List V} (h1 : H p = some (.tup xs)) (h2 : H t = some (.tup [.ty "list", .ty "tuple"])) (h : Q (.bl true) H) : rIsiT K [.ref p, .ref t] H Q :=
  ⟨.ref p, t, _, .type "tuple", _, true, rfl, h2, .cons (.ty "list") (.cons (.ty "tuple") .nil), .base (.tup h1), kitAny_cons (b := false) (kit_ty (by decide +kernel))
    (fun _ => kitAny_cons (b := true) (kit_ty (by decide +kernel)) (fun z => by cases z) (fun _ => rfl)) (fun z => by cases z), h⟩
theorem r_inID {kvs : List (Int × Int)} {a : Addr} {g : Bool → Bool} (h : Q (.bl (g (atK kvs i).isSome)) H) : rInID kvs a g (.int i) (.ref a) H Q := ⟨i, rfl, rfl, h⟩
theorem r_ixID {kvs : List (Int × Int)} {a : Addr} (h1 : atK kvs i = some j) (h : Q (.int j) H) : rIxID kvs a (.ref a) (.int i) H Q := ⟨i, j, rfl, rfl, h1, h⟩
theorem r_intBin {x : Str} (h1 : x.cps.toList ≠ []) (h2 : x.length ≤ 640) (h3 : ∀ c ∈ x.cps.toList, Bn.IsBit c) (h : Q (.int ((Bn.binNum x.cps.toList : Nat) : Int)) H) : rIntBin [.str x, .int 2] H Q := ⟨x, rfl, h1, h2, h3, h⟩
theorem r_all {a : Addr} {bs : List Bool} (h1 : SqL K H a (bs.map V.bl)) (h : Q (.bl (bs.all id)) H) : rAll K [.ref a] H Q := ⟨a, bs, rfl, h1, h⟩
theorem r_int1I (h : Q (.int i) H) : rInt1 [.int i] H Q := .inl ⟨i, rfl, h⟩
theorem r_int1B {k : Bool} (h : Q (.int (if k then 1 else 0)) H) : rInt1 [.bl k] H Q := .inr ⟨k, rfl, h⟩
theorem r_inS {a b : Str} (h : rInS (.str a) (.str b) H Q) : rInU K (.str a) (.str b) H Q := .inl h
theorem r_enumL {R : It → Hp → Prop} (h : tr σ H fun vs H1 => ∃ a xs, vs = [.ref a] ∧ SqL K H1 a xs ∧ R (Ite K a) H1) : iEnumU K tr σ H R := .inl h
theorem r_enumS {R : It → Hp → Prop} (h : tr σ H fun vs H1 => ∃ z : Str, vs = [.str z] ∧ R (ItP z.cps.size (fun i => some (.int (i : Nat))) (sgn z)) H1) : iEnumU K tr σ H R := .inr h
theorem r_seqC {t u : TS} (Mid : S → Hp → Prop) (h2 : ∀ σ G, Mid σ G → u D σ G) (h1 : ∀ N : S → Hp → Prop, (∀ σ G, Mid σ G → N σ G) → t { D with nx := N } σ H) : tSeq t u D σ H := h1 (u D) h2
theorem r_gtI (h : Q (.bl (decide (j < i))) H) : rGtI (.int i) (.int j) H Q := r_I0 h
end
end Px

namespace Px
open PySem PySem.Spec PyProof.Rows L2
/-! ### lists of texts compared -/
def StrsLo (l : List Str) : Prop := ∀ z ∈ l, ∀ c ∈ z.cps.toList, c < 0x110000
def dS (l : List Str) : PyData := .list (l.map PyData.str)
theorem dpAll_strs {K : PySem.W.Frag} {H : Hp} : ∀ xs : List Str, DpAll K H (xs.map V.str) (xs.map PyData.str)
  | [] => .nil
  | x :: xs => .cons (.str _) (dpAll_strs xs)
theorem dp_strs {K : PySem.W.Frag} {H : Hp} {a : Addr} {l : List Str} (h : SqL K H a (l.map V.str)) : Dp K H (.ref a) (dS l) := .lst h (dpAll_strs l)
theorem canLay_strs : ∀ {xs : List Str}, StrsLo xs → PyData.canLayAll0 (xs.map PyData.str) = true
  | [], _ => by simp only [List.map_nil, PyData.canLayAll0]
  | x :: xs, h => by
    simp only [List.map_cons, PyData.canLayAll0, PyData.canLay0, canLay_strs fun z hz => h z (List.mem_cons_of_mem _ hz), Bool.and_true]
    exact strOk_of (h x (List.mem_cons_self ..))
theorem depth_strs : ∀ xs : List Str, PyData.depthAll (xs.map PyData.str) = 0
  | [] => by simp only [List.map_nil, PyData.depthAll]
  | x :: xs => by simp only [List.map_cons, PyData.depthAll, PyData.depth, depth_strs xs, Nat.max_self]
theorem dS_shaped {xs : List Str} (h : StrsLo xs) : SeqAt.shaped (dS xs) = true := by
  unfold SeqAt.shaped dS
  simp only [PyData.canLay0, PyData.depth, canLay_strs h, depth_strs]
  decide
theorem eqv_strs : ∀ xs ys : List Str, PyData.eqvAll (xs.map PyData.str) (ys.map PyData.str) = decide (xs = ys)
  | [], [] => by simp only [List.map_nil, PyData.eqvAll]; rfl
  | [], y :: ys => by simp only [List.map_nil, List.map_cons, PyData.eqvAll]; simp
  | x :: xs, [] => by simp only [List.map_nil, List.map_cons, PyData.eqvAll]; simp
  | x :: xs, y :: ys => by
    simp only [List.map_cons, PyData.eqvAll, PyData.eqv, eqv_strs xs ys]
    by_cases h : x = y <;> simp [h]
theorem dS_eqv (xs ys : List Str) : PyData.eqv (dS xs) (dS ys) = decide (xs = ys) := by
  unfold dS
  simp only [PyData.eqv, eqv_strs]
section
variable {K : PySem.W.Frag} {H : Hp} {Q : VK} {a b : Addr} {xs ys : List Str}
theorem r_eqUT (h1 : SqL K H a (xs.map V.str)) (h2 : SqL K H b (ys.map V.str)) (l1 : StrsLo xs) (l2 : StrsLo ys) (h : Q (.bl (decide (xs = ys))) H) : rEqU K (.ref a) (.ref b) H Q :=
  r_eqUD (dp_strs h1) (dp_strs h2) (dS_shaped l1) (dS_shaped l2) (by rw [dS_eqv]; exact h)
theorem r_neUT (h1 : SqL K H a (xs.map V.str)) (h2 : SqL K H b (ys.map V.str)) (l1 : StrsLo xs) (l2 : StrsLo ys) (h : Q (.bl (!decide (xs = ys))) H) : rNeU K (.ref a) (.ref b) H Q :=
  r_neUD (dp_strs h1) (dp_strs h2) (dS_shaped l1) (dS_shaped l2) (by rw [dS_eqv]; exact h)
end
end Px

namespace Px
open PySem PySem.Spec PyProof.Rows L2
/-! ### text * number (a sign or none, a small number), text.index -/
def strRep (a : Str) (n : Nat) : Str := ⟨(List.replicate n a.cps.toList).flatten.toArray⟩
theorem rep_fold (x : Array Nat) : ∀ (n : Nat) (acc : Array Nat), (List.replicate n x).foldl (· ++ ·) acc = acc ++ (List.replicate n x.toList).flatten.toArray
  | 0, acc => by simp
  | n + 1, acc => by
    rw [List.replicate_succ, List.foldl_cons, rep_fold x n, List.replicate_succ, List.flatten_cons]
    apply Array.ext'
    simp
def rMulS : R2 := fun x y H Q => ∃ (a : Str) (n : Nat), x = .str a ∧ y = .int n ∧ a.length ≤ 1 ∧ n ≤ 1000 ∧ Q (.str (strRep a n)) H
theorem op_mulS {X : Cx} : OpR X (binaryOp .Mult) rMulS := by
  intro pins s σ H x y v u Q I rx ry h
  obtain ⟨a, n, rfl, rfl, ha, hn, q⟩ := h
  obtain ⟨t, rfl⟩ := rx
  obtain ⟨t2, rfl⟩ := ry
  have dv : 1000 ≤ (2 ^ 63 - 1 : Int) / (1000 : Int) := by decide
  refine PySem.P.mul_str (by
    rw [decide_eq_false (by omega), decide_eq_false (by omega)]; rfl) (fun h1 _ z => ?_) (fun h1 _ => ?_) ?_
  · have h3 : (1 : Int) ≤ (2 ^ 63 - 1) / (n : Int) := (Int.le_ediv_iff_mul_le (by omega)).mpr (by omega)
    omega
  · unfold Builtin.Str.tooLong
    rw [Int.toNat_natCast]
    refine decide_eq_false ?_
    have : a.length * n ≤ 1 * 1000 := Nat.mul_le_mul ha hn
    have := sizeLine_eq
    omega
  by_cases h1 : (n : Int) < 1
  · rw [if_pos h1]
    have e : n = 0 := by omega
    subst e
    exact ⟨by decide, ⟨.str (strRep a 0), H, I.tok _, ⟨_, rfl⟩, q⟩⟩
  · rw [if_neg h1]
    by_cases h2 : ((n : Int) == 1 || a.length == 0) = true
    · rw [if_pos h2]
      have e : strRep a n = a := by
        unfold strRep
        rcases Bool.or_eq_true_iff.mp h2 with z | z
        · have z := beq_iff_eq.mp z
          have : n = 1 := by omega
          subst this
          simp
        · have z : a.cps.size = 0 := beq_iff_eq.mp z
          have : a.cps = #[] := Array.eq_empty_of_size_eq_zero z
          have e2 : a = ⟨#[]⟩ := by
            show a = _
            rw [← this]
          rw [e2]
          simp
      rw [e] at q
      exact ⟨.str a, H, I, ⟨_, rfl⟩, q⟩
    · rw [if_neg h2]
      have e : (⟨(List.replicate (Int.toNat n) a.cps).foldl (· ++ ·) #[]⟩ : Str) = strRep a n := by
        rw [rep_fold, Int.toNat_natCast]
        unfold strRep
        simp
      rw [e]
      refine ⟨?_, ⟨.str (strRep a n), H, I.tok _, ⟨_, rfl⟩, q⟩⟩
      unfold strRep
      show (List.replicate n a.cps.toList).flatten.toArray.size ≤ sizeLine
      have : a.cps.toList.length ≤ 1 := by rw [Array.length_toList]; exact ha
      simp only [List.size_toArray, List.length_flatten, List.map_replicate, List.sum_replicate_nat]
      have h5 : n * a.cps.toList.length ≤ 1000 * 1 := Nat.mul_le_mul hn this
      rw [sizeLine_eq]
      omega
abbrev rSIdx : V → List V → Hp → VK → Prop := fun x xs H Q => ∃ a b i rest, x = .str a ∧ xs = [.str b] ∧ Builtin.Str.occurrences a b 0 a.length 1 = i :: rest ∧ Q (.int (i : Nat)) H
end Px

/-! own errors over ValueError whose __init__ says super().__init__("..") and keeps one argument -/
namespace PySem
namespace PxE
open PySem.W PySem.Calls PyProof.Rows PySem.HandSPX
/-- super().__init__("txt"); self.fld = prm -/
abbrev s1 (txt : Str) (p0 p1 p2 p3 p4 p5 : Pos) (k : Nat) : Stmt := .Expr (.Call (.Attribute (.Call (.Name "super" p0) [] [] p1) "__init__" p2) [.Constant (.str txt) k p3] [] p4) p5
abbrev s2 (fld prm : Str) (p6 p7 p8 p9 : Pos) : Stmt := .Assign [.Attribute (.Name "self" p6) fld p7] (.Name prm p8) p9
section
abbrev c1 (txt : Str) (p0 p1 p2 p3 p4 : Pos) (k : Nat) : Expr := .Call (.Attribute (.Call (.Name "super" p0) [] [] p1) "__init__" p2) [.Constant (.str txt) k p3] [] p4
variable {prog : Program} {w : World} {A : Around} {R : Result → Shared → Prop} {hp : Heap} {g : Array GenState} {d : Drawn} {t : Nat} {os : OsState} {K : Frag}
variable {C f cc cda e t0 : Addr} {v : Value} {mg mb : Str → Option Value} {name qual txt fld prm : Str} {params : Arguments} {scope : Scope} {dV kV doc pm ct oc ccl cl : Value} {an od cdd cld : Option Addr} {osl ccs csl : Array (Option Value)} {vs : Array Value} {file : Str} {tf : Tok} {ar : Arg}
  {p0 p1 p2 p3 p4 p5 p6 p7 p8 p9 : Pos} {k : Nat} {nm q : Str} {N : Addr} {bs bm : List Value} {sn : List Str} {sub : List Value} {ab : Bool} {col : Option Bool} {dd : Option Addr} {k0 k1 k2 k3 k5 : Option Value}
theorem init_super (X : K.In hp) (hg : hp.Ns mainGlobals mg) (hb : hp.Ns builtinsNs mb) (hmb : mb "super" = some (.type "super")) (hsuper : mg "super" = none) (lim : hp.NoLimit) (hroom : A.depth < recursionLimit)
    (lk : K.lookup f = some ⟨oc, od, .func (ksFn name qual params [s1 txt p0 p1 p2 p3 p4 p5 k, s2 fld prm p6 p7 p8 p9] scope dV kV doc pm an (.ref cda) ct cc), osl⟩) (hcd : codeIn K (.ref cda) qual = true)
    (hpar : (params.posonlyargs ++ params.args).head? = some ar) (har : ar.arg = "self")
    (hcode : K.lookup cda = some ⟨ccl, cdd, .fields vs, ccs⟩) (hvs : vs[2]? = some (.str file tf)) (hfile : ((prog.main.file : Str) == file) = true) (htop : (prog.main.scope.names.lookup ("super" : Str)).isSome = false)
    (hcell : K.lookup cc = some ⟨cl, cld, .cell (some (.ref C)), csl⟩)
    (hsc : ∀ x ∈ scope.names, x.2 ≠ .cell) (hs1 : scope.names.lookup ("super" : Str) = some .globalImplicit) (hs2 : scope.names.lookup ("__class__" : Str) = some .free) (hs3 : scope.names.lookup ("self" : Str) = some .local) (hs4 : scope.names.lookup prm = some .local)
    (hsk : scope.kind = .function) (hco : scope.isCoroutine = false) (hgen : scope.isGenerator = false) (hps : prm ≠ "self") (hpd : (prm == ("__debug__" : Str)) = false)
    (hC : K.lookup C = some (excClassObj nm q C N bs bm true sn sub ab col dd k0 k1 k2 k3 k5 "ValueError.__new__")) (hbm : refsVE bm = true) (sa : findIn K (.ref C) "__setattr__" = some (some (.builtin "object.__setattr__"))) (hno : findIn K (.ref C) fld = some none)
    (hop : nsIn K cStatics "thirdparty.any" = some none) (hsup : ks_superIn K C C "__init__" = some (some (.builtin "ValueError.__init__"))) (hB : subIn K (.ref C) (.type "ValueError") = some true) (hself : mroIn K C (.ref C) = some true)
    (he : hp.get? e = some ({ cls := .ref C, dict := none, data := .fields #[.ref t0, .none, .none, .none, .bool false, .none] } : Obj))
    (hKe : ∀ a o, K.lookup a = some o → a ≠ e)
    (hbind : BindsTo ⟨hp, g, d, t, os⟩ (ksFn name qual params [s1 txt p0 p1 p2 p3 p4 p5 k, s2 fld prm p6 p7 p8 p9] scope dV kV doc pm an (.ref cda) ct cc) ⟨[.ref e, v], []⟩ [("self", .ref e), (prm, v)])
    (pl : Addr → Sem Bool) (env : Addr → Env) (henv : env = fun L => callEnv (ksFn name qual params [s1 txt p0 p1 p2 p3 p4 p5 k, s2 fld prm p6 p7 p8 p9] scope dV kV doc pm an (.ref cda) ct cc) L f)
    (hi : ∀ L, interactive (env L) = false) (hw1 : ∀ L, swapsWith (c1 txt p0 p1 p2 p3 p4 k) none p5.line (env L) = pure false) (hw2 : ∀ L, swapsWith (.Name prm p8) (some (.Attribute (.Name "self" p6) fld p7)) p9.line (env L) = pure false)
    (hev : ∀ L, eval (c1 txt p0 p1 p2 p3 p4 k) (env L) = (do
      let ov ← attributeBase (.Call (.Name "super" p0) [] [] p1) "__init__" (env L) (eval (.Call (.Name "super" p0) [] [] p1) (env L))
      standAt p2.atName
      let (f, first) ← holding [ov] (getMethod ov "__init__" (pl L))
      callWith p4 f first (backTo p4 (starEach [.Constant (.str txt) k p3] (env L))) []))
    (hst : ∀ L, starEach [.Constant (.str txt) k p3] (env L) = [(false, eval (.Constant (.str txt) k p3) (env L))])
    (hq : ∀ h' t' dx t1, (∀ b o, b ≠ e → hp.get? b = some o → h'.get? b = some o) → hp.objs.size ≤ dx → dx ≠ e → h'.get? e = some ({ cls := .ref C, dict := some dx, data := .fields #[.ref t1, .none, .none, .none, .bool false, .none] } : Obj) →
      h'.Ns1 dx (fun y => if y = fld then some v else none) → R (.ok (.ret .none)) ⟨h', g, d, t', os⟩) :
    codeAny (model prog w) A (.call (.ref f) ⟨[.ref e, v], []⟩) R ⟨hp, g, d, t, os⟩ := by
  have hcl : clsIn K C = some { name := nm, bases := bs, mro := .ref C :: bm, ns := N, qualname := q, hasDict := true, slotNames := sn, subclasses := sub, abstract := ab, collection := col, hasDel := false } := by unfold clsIn; rw [hC] <;> rfl
  refine ks_codeAny_call_defAt (fd := ksFn name qual params [s1 txt p0 p1 p2 p3 p4 p5 k, s2 fld prm p6 p7 p8 p9] scope dV kV doc pm an (.ref cda) ct cc) (body := [s1 txt p0 p1 p2 p3 p4 p5 k, s2 fld prm p6 p7 p8 p9]) (binds := [("self", .ref e), (prm, v)])
    hroom (X _ _ lk) rfl lim (codeRec_of X hcd) rfl hbind hsc (fun y hy => ?_) (fun h1 hns hk1 => ?_) hco hgen hsk
  · rcases List.mem_cons.mp hy with rfl | hy
    · exact hs3
    · rw [List.mem_singleton.mp hy]; exact hs4
  have X1 : K.In h1 := X.keeps hk1
  have he1 := hk1 _ _ he
  have lself : ([(("self" : Str), Value.ref e), (prm, v)] : List (Str × Value)).reverse.lookup ("self" : Str) = some (Value.ref e) := by
    show List.lookup _ [(prm, v), (("self" : Str), Value.ref e)] = _
    have : (("self" : Str) == prm) = false := by simpa using (Ne.symm hps)
    simp [List.lookup, this]
  have lprm : ([(("self" : Str), Value.ref e), (prm, v)] : List (Str × Value)).reverse.lookup prm = some v := by
    show List.lookup _ [(prm, v), (("self" : Str), Value.ref e)] = _
    simp [List.lookup]
  have ee : ∀ L, callEnv (ksFn name qual params [s1 txt p0 p1 p2 p3 p4 p5 k, s2 fld prm p6 p7 p8 p9] scope dV kV doc pm an (.ref cda) ct cc) L f = env L := fun L => by rw [henv]
  show wpAt _ (A.deeper (callEnv _ hp.objs.size f)) (.func _ (callEnv _ hp.objs.size f)) (execs _ (callEnv _ hp.objs.size f)) _ _ _
  rw [ee hp.objs.size]
  have hk : (env hp.objs.size).scope = scope := by rw [henv]; rfl
  refine ks_wpAt_execs_cons (ks_wpAt_Expr_any (ks_wpAt_MethodCall (pl := pl hp.objs.size) ?_ (hev _)) (hi _) (hw1 _))
  rw [← ee hp.objs.size]
  refine ks_wpAt_super_base hs1 hs2 (by decide) rfl (X1 _ _ lk) rfl hpar rfl (X1 _ _ hcode) rfl hvs hfile htop ?_
  refine ks_loadName_global hsk hs1 (loadGlobal_builtin (hg.keeps hk1) hsuper (hb.keeps hk1) hmb ⟨rfl, ?_⟩)
  refine wpAny_loadName_free hsk hs2 rfl ⟨_, X1 _ _ hcell, rfl⟩ ?_
  rw [har]
  refine wpAny_loadName_local hsk hs3 hns lself ?_
  refine ks_wpAny_isType_cls (X1 _ _ hC) rfl ⟨rfl, ?_⟩
  refine ks_wpAny_call_super (X1 _ _ hC) rfl he1 rfl (fun c z => nomatch z) (looks_mroIn X1 hself) (fun h2 hso k2' => ?_)
  have X2 : K.In h2 := X1.keeps k2'
  have he2 := k2' _ _ he1
  have hns2 := hns.keeps k2'
  have I2 : InstAt h2 e ({ cls := .ref C, dict := none, data := .fields #[.ref t0, .none, .none, .none, .bool false, .none] } : Obj) C none := ⟨he2, rfl, rfl, trivial⟩
  have hsup' : alongIn K "__init__" (((Value.ref C :: bm).dropWhile (· != .ref C)).drop 1) = some (some (.builtin "ValueError.__init__")) := by
    unfold ks_superIn at hsup
    rw [hcl] at hsup
    exact hsup
  refine kxs_getMethod kxs_ValueError hso (looks_opaque X2 hop) (l₀ := Value.ref C :: bm) (fun A Q E s k q => wpAny_bind ((looks_clsIn X2 hcl) A _ E s k (wpAny_pure q))) rfl X2 hsup' (I2.type.andThen (looks_subIn X2 hB)) (ks_ne X2 I2 hcl) (by decide) ?_
  have k3' : ∀ b o, h2.get? b = some o → (h2.push (kxs_mw "ValueError.__init__" e)).get? b = some o := fun b o z => Heap.get?_push_of_some _ z
  have hu : (h2.push (kxs_mw "ValueError.__init__" e)).get? h2.objs.size = some (kxs_mw "ValueError.__init__" e) := Heap.get?_push_at rfl rfl
  generalize hh3 : h2.push (kxs_mw "ValueError.__init__" e) = h3 at k3' hu
  have X3 : K.In h3 := X2.keeps k3'
  have he3 := k3' _ _ he2
  have hns3 := hns2.keeps k3'
  have kk3 : ∀ b o, hp.get? b = some o → h3.get? b = some o := fun b o z => k3' b o (k2' b o (hk1 b o z))
  show wpAny _ _ (callWith p4 (.ref h2.objs.size) [] (backTo p4 (starEach [.Constant (.str txt) k p3] _)) []) _ _ _
  rw [ee hp.objs.size, hst]
  refine kxs_callWith (i := "ValueError.__init__") (x := e) rfl (evalArgs_plain (spliced_cons (Constant_str (pos := p3) (k := k) (spliced_nil ⟨hu, ?_⟩))))
  have FB := PySem.F.excBase_ValueError
  refine wpAny_call (codeAny_of_tree ?_)
  show wpAny _ (A.deeper (env hp.objs.size)).in1 (callAny (.ref h2.objs.size) ⟨[.str txt _], []⟩) _ _ _
  simp only [callAny]
  refine wpAny_bind (wpAny_load hu ?_)
  simp only [kxs_mw, show (Value.type "method-wrapper" == Value.type "method" || Value.type "method-wrapper" == Value.type "builtin_function_or_method" || Value.type "method-wrapper" == Value.type "method-wrapper") = true by decide, if_true]
  refine KFB.if_so (by decide) ?_
  refine wpAny_bind (check_bound_init FB.toExcCallFacts (X3 _ _ hC) he3 rfl ?_)
  refine wpAny_bind (wpAny_pure (wpAny_pure ?_))
  refine ⟨plainId_quiet FB.init.plain _, codeAny_builtin FB.initEntry ?_⟩
  refine exc_init_tree (cls := .ref C) (t0 := t0) (dv := none) (c2 := .none) (c3 := .none) (b4 := .bool false) he3 (by show 1 ≤ sizeLine; decide) (fun h4 k4' he4 _ => ?_)
  -- the second statement
  have eL : hp.objs.size ≠ e := Nat.ne_of_gt (Heap.lt_size he)
  have kk4 : ∀ b o, b ≠ e → hp.get? b = some o → h4.get? b = some o := fun b o hb z => k4' b o hb (kk3 b o z)
  have X4 : K.In h4 := fun a o z => kk4 a o (hKe a o z) (X a o z)
  have hns4 : h4.Ns hp.objs.size (fun x => ([(("self" : Str), Value.ref e), (prm, v)] : List (Str × Value)).reverse.lookup x) := hns3.at fun o z => k4' _ o eL z
  show wpAt _ _ _ (execs [s2 fld prm p6 p7 p8 p9] (env hp.objs.size)) _ _ _
  refine wpAt_of_wpAny (wpAny_execs_cons (plainObj_wpAny_Assign_Attribute ?_ (hw2 _)))
  rw [← ee hp.objs.size]
  refine wpAny_Name (wpAny_loadName_local hsk hs4 hns4 lprm ?_) hpd
  refine wpAny_Name (wpAny_loadName_local hsk hs3 hns4 lself ?_) (by decide)
  have he4' : h4.get? e = some ({ cls := .ref C, dict := none, data := .fields #[.ref h3.objs.size, .none, .none, .none, .bool false, .none] } : Obj) := he4
  refine set_plain X4 (ox := { cls := .ref C, dict := none, data := .fields #[.ref h3.objs.size, .none, .none, .none, .bool false, .none] }) (od := none) ⟨he4', rfl, rfl, trivial⟩ sa ?_
  have szle : hp.objs.size ≤ h4.objs.size := Nat.le_of_lt hns4.lt
  refine exc_osa X4 he4' hcl (show refsVE (.ref C :: bm) = true from hbm) rfl hno (fun h5 tk5 dx k5' dn dne hx5 hn5 => ?_)
  refine wpAny_execs_nil ?_
  exact hq h5 tk5 dx h3.objs.size (fun b o hb z => k5' b o hb (kk4 b o hb z)) (Nat.le_trans szle dn) dne hx5 hn5
end
/-- what a call of the class's __init__ does: the object gets its dict with one field -/
def InitOk (prog : Program) (w : World) (K : Frag) (mg : Str → Option Value) (C f : Addr) (fld : Str) : Prop :=
  ∀ (A : Around) (R : Result → Shared → Prop) (hp : Heap) (g : Array GenState) (d : Drawn) (t : Nat) (os : OsState) (e t0 : Addr) (v : Value) (mb : Str → Option Value), K.In hp → hp.Ns mainGlobals mg → hp.Ns builtinsNs mb → mb "super" = some (.type "super") → hp.NoLimit →
    A.depth < recursionLimit → (∀ a o, K.lookup a = some o → a ≠ e) → hp.get? e = some ({ cls := .ref C, dict := none, data := .fields #[.ref t0, .none, .none, .none, .bool false, .none] } : Obj) →
    (∀ h' t' dx t1, (∀ b o, b ≠ e → hp.get? b = some o → h'.get? b = some o) → hp.objs.size ≤ dx → dx ≠ e → h'.get? e = some ({ cls := .ref C, dict := some dx, data := .fields #[.ref t1, .none, .none, .none, .bool false, .none] } : Obj) →
      h'.Ns1 dx (fun y => if y = fld then some v else none) → R (.ok (.ret .none)) ⟨h', g, d, t', os⟩) →
    codeAny (model prog w) A (.call (.ref f) ⟨[.ref e, v], []⟩) R ⟨hp, g, d, t, os⟩
end PxE
end PySem
namespace L2
open PySem PySem.Spec PyProof.Rows
/-- C(e), C's own __init__ keeping its one argument as the field fld -/
def tMkE (C : Addr) (fld : Str) (ta : TA) : St → Hp → XK → Prop := fun σ H Q => ta σ H fun vs H1 => ∃ v, vs = [v] ∧ ∀ d, H1 d = none → Q (.ref C) (some d) (upd H1 d (.xd [(fld, v)]))
theorem pmk_err {X : Cx} {x fld : Str} {C fI : Addr} {k : Nat} {e : Expr} {ta : TA} {p pos : Pos} (T : OexC X.K C) (iC : PySem.W.findIn X.K (.ref C) "__init__" = some (some (.ref fI))) (tI : PySem.W.typeIn X.K (.ref fI) = some (.type "function"))
    (IO : PySem.PxE.InitOk X.prog X.w X.K X.mg C fI fld) (hr : Room (k + 1) X.A) (hg : Gl X x) (hm : X.mg x = some (.ref C)) (ha : PA X [e] ta)
    (hdb : (x == ("__debug__" : Str)) = false := by decide) (he : starEach [e] X.env = (false, eval e X.env) :: starEach [] X.env := by rfl) (hpl : (backTo pos (starEach [] X.env)).any (·.1) = false := by rfl) :
    PMk X (.Call (.Name x p) [e] [] pos) (tMkE C fld ta) := by
  intro pins s σ H Q I h
  obtain ⟨nm, q, N, bs, bm, sn, sub, ab, col, dd, k0, k1, k2, k3, k5, hC, hbm⟩ := T.cls
  refine wpAny_Call_Name_kw (ld_glob I hg hm ?_ hdb)
  refine PySem.W.callWith_K (h₀ := X.base) I.ok.mod.kin T.kC (thn (ha.run pos pins s σ H _ I h) fun us s1 ⟨vs, H1, I1, r1, v, ev, q1⟩ => ⟨I1.kIn, ?_⟩) he hpl
  subst ev
  obtain ⟨u, rfl, ru⟩ := vals1 r1
  show wpAny _ _ (call (.ref C) [u]) _ _ _
  obtain ⟨hp, g, dr, tk, os⟩ := s1
  have hsz : hp.objs.size ≤ hp.objs.size + 1 := Nat.le_succ _
  have hn : H1 (hp.objs.size + 1) = none := I1.hok.fresh hsz
  have kk : ∀ b o, hp.get? b = some o → ((hp.push (PySem.W.kdv_tup [u])).push (PySem.HandSPX.excO C hp.objs.size)).get? b = some o := fun b o e => Heap.get?_push_of_some _ (Heap.get?_push_of_some _ e)
  have hget : ((hp.push (PySem.W.kdv_tup [u])).push (PySem.HandSPX.excO C hp.objs.size)).get? (hp.objs.size + 1) = some (PySem.HandSPX.excO C hp.objs.size) := by heap_get
  have I2 : Inv X pins σ (upd H1 (hp.objs.size + 1) (exo (hp.objs.size + 1) C none)) ⟨(hp.push (PySem.W.kdv_tup [u])).push (PySem.HandSPX.excO C hp.objs.size), g, dr, tk, os⟩ :=
    I1.laid (t' := tk) (a := hp.objs.size + 1) (o := exo (hp.objs.size + 1) C none) (h' := (hp.push (PySem.W.kdv_tup [u])).push (PySem.HandSPX.excO C hp.objs.size)) kk hsz (exo_ok hget)
  have e0 := I2.env0
  obtain ⟨mb, hmb, hmv⟩ := e0.mod.blt
  have hus : ([u] : List Value).length ≤ sizeLine := by show 1 ≤ sizeLine; decide
  have hea : upd H1 (hp.objs.size + 1) (exo (hp.objs.size + 1) C none) (hp.objs.size + 1) = some (exo (hp.objs.size + 1) C none) := upd_same
  refine wpAny_call (PySem.HandSPX.call_own F.excBase_ValueError (fun Y => PySem.HandSPX.refsVE_contains Y bm hbm) (I1.kIn _ _ hC) (PySem.W.looks_findIn I1.kIn iC) (fun self => PySem.W.bind_fn I1.kIn self tI) hus ?_)
  generalize hpp : (hp.push (PySem.W.kdv_tup [u])).push (PySem.HandSPX.excO C hp.objs.size) = hp2 at *
  generalize hea2 : hp.objs.size + 1 = a at *
  have kb : ∀ b o, X.base.get? b = some o → hp2.get? b = some o := fun b o z => (e0.bs b o z).1
  have bs2 : mb "super" = some (.type "super") := (hmv _ (by decide +kernel)).trans (by first | boot_by_name | rfl | kernel_rfl)
  refine IO _ _ hp2 g dr _ os a hp.objs.size u mb I2.kIn (e0.mod.glob.keeps kb) (hmb.keeps kb) bs2 (e0.mod.nolimit.keeps kb) (hr.make C [u] []).depth (fun b o z w => ?_) hget (fun h' t' dx t1 k' dn dne hx hn5 => ?_)
  · have y := (e0.bs b o (e0.mod.kin b o z)).2
    rw [w, hea] at y
    cases y
  generalize hH : upd H1 a (exo a C none) = H at *
  have hnd : H dx = none := I2.hok.fresh dn
  have hd1 : H1 dx = none := by
    rw [← hH, upd_ne dne] at hnd
    exact hnd
  have nd : ∀ {b : Addr} {o : Obj}, hp2.get? b = some o → b ≠ dx := fun {b o} q => Nat.ne_of_lt (Nat.lt_of_lt_of_le (Heap.lt_size q) dn)
  have na : ∀ {b : Addr}, H b = none → b ≠ a := fun {b} n z => by
    rw [z, hea] at n
    cases n
  have Un1 : Un (frs X.stack) [] H (upd (upd H dx (exd dx [(fld, v)])) a (exo a C (some dx))) hp2 h' := {
    keep := fun b o q n _ _ => k' b o (na n) q
    slot := fun b o q n _ _ => ⟨o.slots, k' b o (na n) q⟩
    free := fun b o q n _ => by rw [upd_ne (na n), upd_ne (nd q)]; exact n
    there := fun b o q _ => by
      by_cases hb : b = a
      · exact ⟨_, by rw [hb]; exact hx⟩
      · exact ⟨o, k' b o hb q⟩
    tups := fun b xs q => by rw [upd_ne (at_ne hea q exo_tup), upd_ne (ne_of_none q hnd)]; exact q
    frzs := fun b o v q => by rw [upd_ne (at_ne hea q exo_frz), upd_ne (ne_of_none q hnd)]; exact q
    tbls := fun b ps q => ⟨#[], by rw [upd_ne (at_ne hea q exo_tbl), upd_ne (ne_of_none q hnd), q]; simp⟩ }
  have hok2 : HOk X.prog X.w (upd (upd H dx (exd dx [(fld, v)])) a (exo a C (some dx))) h' := fun b o q => by
    by_cases hb : b = a
    · subst hb
      rw [upd_same] at q
      cases q
      exact exo_ok hx
    · rw [upd_ne hb] at q
      by_cases hd : b = dx
      · subst hd
        rw [upd_same] at q
        cases q
        exact exd_ok hn5 (relO_put (fs := []) ru fun g => True.intro)
      · rw [upd_ne hd] at q
        exact (I2.hok b o q).stay (fun c v hc z => k' c v (by
            rcases hc with hc | hc
            · rw [hc]
              exact hb
            · exact at_ne hea hc exo_own) z)
          (fun c hc => by rw [upd_ne (at_ne hea hc exo_own), upd_ne (ne_of_none hc hnd)]; exact hc) (fun c xs hc => by rw [upd_ne (at_ne hea hc exo_tup), upd_ne (ne_of_none hc hnd)]; exact hc)
  have eq : upd (del (upd (upd H dx (exd dx [(fld, v)])) a (exo a C (some dx))) a) dx (.xd [(fld, v)]) = upd H1 dx (.xd [(fld, v)]) := by
    funext b
    by_cases hd : b = dx
    · rw [hd, upd_same, upd_same]
    · rw [upd_ne hd, upd_ne hd]
      by_cases hb : b = a
      · rw [hb, del_same, hn]
      · rw [del_ne hb, upd_ne hb, upd_ne hd, ← hH, upd_ne hb]
  refine ⟨rfl, mk_end (H2 := upd (upd H dx (exd dx [(fld, v)])) a (exo a C (some dx))) (fs := [(fld, v)]) (d := dx) (raises_own T.exC T.tyC) I1 hsz kk (by rw [hH]; exact Un1) hok2 rfl I2.bare upd_same (by rw [upd_ne dne, upd_same]) hd1 (by rw [eq]; exact q1 dx hd1)⟩
end L2

namespace Px
open PySem PySem.Spec PyProof.Rows L2 He
/-! ### the head's facts of own error classes whose __init__ says super() -/
structure ErrD where
  cls : Str
  fld : Str
  qul : Str
  par : Arguments
  bdy : List Stmt
  scp : Scope
  fil : Str
def ErrD.C (d : ErrD) (K : PySem.W.Frag) : Addr := ga K d.cls
def ErrD.f (d : ErrD) (K : PySem.W.Frag) : Addr := ma K (ga K d.cls) "__init__"
def ErrD.sees (K : PySem.W.Frag) (d : ErrD) : FnW := match K.lookup (d.f K) with
  | some ⟨_, _, .func fd, _⟩ => some (fd.name, fd.qualname, fd.params, fd.body, fd.scope, fd.globals, fd.closure.map (fun q => (q.1, 0)), fd.builtins)
  | _ => none
def ErrD.due (d : ErrD) : FnW := some ("__init__", d.qul, d.par, .stmts d.bdy, d.scp, mainGlobals, [("__class__", 0)], builtinsNs)
def ecB (K : PySem.W.Frag) (C : Addr) : Bool := match K.lookup C with
  | some ⟨.type "type", _, .cls cd, sl⟩ => (match cd.mro, sl.toList with
    | .ref C' :: bm, [_, _, _, _, some (.builtin n), _] => C' == C && (n == "ValueError.__new__" && (!cd.hasDel && (cd.hasDict && PySem.HandSPX.refsVE bm)))
    | _, _ => false)
  | _ => false
theorem ecB_ok {K : PySem.W.Frag} {C : Addr} (q : ecB K C = true) : ∃ nm q N bs bm sn sub ab col dd k0 k1 k2 k3 k5, K.lookup C = some (excClassObj nm q C N bs bm true sn sub ab col dd k0 k1 k2 k3 k5 "ValueError.__new__") ∧ PySem.HandSPX.refsVE bm = true := by
  unfold ecB at q
  split at q
  · rename_i dd cd sl ho
    split at q
    · rename_i C' bm k0 k1 k2 k3 n k5 hm hs
      simp only [Bool.and_eq_true, beq_iff_eq, Bool.not_eq_true'] at q
      obtain ⟨rfl, rfl, hdel, hdict, hb⟩ := q
      obtain ⟨nm, bs, mro, ns, qn, hd, sn, sub, ab, col, del⟩ := cd
      dsimp only at hm hdel hdict
      subst hm hdel hdict
      have hsl : sl = #[k0, k1, k2, k3, some (.builtin "ValueError.__new__"), k5] := by
        obtain ⟨l⟩ := sl
        simp only at hs
        rw [hs]
      subst hsl
      exact ⟨nm, qn, ns, bs, bm, sn, sub, ab, col, dd, k0, k1, k2, k3, k5, ho, hb⟩
    · cases q
  · cases q
def codeB (K : PySem.W.Frag) (fil : Str) (v : Value) : Bool := match v with
  | .ref cda => (match K.lookup cda with
    | some ⟨_, _, .fields vs, _⟩ => (match (vs[2]? : Option Value) with
      | some (.str f _) => decide (f = fil)
      | _ => false)
    | _ => false)
  | _ => false
theorem codeB_ok {K : PySem.W.Frag} {fil : Str} {v : Value} (h : codeB K fil v = true) : ∃ cda ccl cdd vs ccs tf, v = .ref cda ∧ K.lookup cda = some ⟨ccl, cdd, .fields vs, ccs⟩ ∧ vs[2]? = some (.str fil tf) := by
  unfold codeB at h
  split at h
  · rename_i cda
    split at h
    · rename_i ccl cdd vs ccs q
      split at h
      · rename_i f tf r
        have e := of_decide_eq_true h
        subst e
        exact ⟨cda, ccl, cdd, vs, ccs, tf, rfl, q, r⟩
      · cases h
    · cases h
  · cases h
def cellB (K : PySem.W.Frag) (C : Addr) (l : List (Str × Addr)) : Bool := match l with
  | [q] => (match K.lookup q.2 with
    | some ⟨_, _, .cell (some (.ref c)), _⟩ => c == C
    | _ => false)
  | _ => false
theorem cellB_ok {K : PySem.W.Frag} {C : Addr} {l : List (Str × Addr)} {x : Str} (h : cellB K C l = true) (e : l.map (fun q => (q.1, 0)) = [(x, (0 : Addr))]) : ∃ cc cl cld csl, l = [(x, cc)] ∧ K.lookup cc = some ⟨cl, cld, .cell (some (.ref C)), csl⟩ := by
  unfold cellB at h
  split at h
  · rename_i q
    obtain ⟨y, cc⟩ := q
    have ey : y = x := by simpa using e
    subst ey
    split at h
    · rename_i cl cld c csl r
      have ec := beq_iff_eq.mp h
      subst ec
      exact ⟨cc, cl, cld, csl, rfl, r⟩
    · cases h
  · cases h
def ErrD.good (K : PySem.W.Frag) (d : ErrD) : Bool := (Fa.glo d.cls).ok K && (ecB K (d.C K) && (eqO (PySem.W.findIn K (.ref (d.C K)) "__setattr__") (some (some (.builtin "object.__setattr__"))) &&
  (decide (PySem.W.subIn K (.ref (d.C K)) (.type "BaseException") = some true) && (decide (PySem.W.typeIn K (.ref (d.C K)) = some (.type "type")) && (PySem.W.keepIn K (.ref (d.C K)) && (xfB K (d.C K) &&
  (eqO (PySem.W.findIn K (.ref (d.C K)) d.fld) (some none) && (eqO (PySem.W.findIn K (.ref (d.C K)) "__init__") (some (some (.ref (d.f K)))) && (decide (PySem.W.typeIn K (.ref (d.f K)) = some (.type "function")) &&
  (decide (PySem.W.exmOne K (.ref (d.C K)) (.ref (d.C K)) = some true) && (eqO (PySem.W.nsIn K cStatics "thirdparty.any") (some none) && (decide (PySem.W.ks_superIn K (d.C K) (d.C K) "__init__" = some (some (.builtin "ValueError.__init__"))) &&
  (decide (PySem.W.subIn K (.ref (d.C K)) (.type "ValueError") = some true) && (decide (PySem.W.mroIn K (d.C K) (.ref (d.C K)) = some true) && (match K.lookup (d.f K) with
    | some ⟨_, _, .func fd, _⟩ => PySem.W.codeIn K fd.code d.qul && (codeB K d.fil fd.code && (cellB K (d.C K) fd.closure && (decide (fd.defaults = .none) && decide (fd.kwdefaults = .none))))
    | _ => false)))))))))))))))
/-- what is known of such a class -/
structure ErrF (K : PySem.W.Frag) (d : ErrD) (C f : Addr) : Prop where
  glo : (Fa.glo d.cls).ok K = true
  Ce : C = ga K d.cls
  oex : OexC K C
  xf : XfC K C
  noF : PySem.W.findIn K (.ref C) d.fld = some none
  iC : PySem.W.findIn K (.ref C) "__init__" = some (some (.ref f))
  tI : PySem.W.typeIn K (.ref f) = some (.type "function")
  te : PySem.W.exmOne K (.ref C) (.ref C) = some true
  hop : PySem.W.nsIn K cStatics "thirdparty.any" = some none
  hsup : PySem.W.ks_superIn K C C "__init__" = some (some (.builtin "ValueError.__init__"))
  hB : PySem.W.subIn K (.ref C) (.type "ValueError") = some true
  hself : PySem.W.mroIn K C (.ref C) = some true
  fn : ∃ oc od doc pm an cda ct cc osl ccl cdd ccs vs tf cl cld csl, K.lookup f = some ⟨oc, od, .func (PySem.W.ksFn "__init__" d.qul d.par d.bdy d.scp .none .none doc pm an (.ref cda) ct cc), osl⟩ ∧ PySem.W.codeIn K (.ref cda) d.qul = true ∧
    K.lookup cda = some ⟨ccl, cdd, .fields vs, ccs⟩ ∧ vs[2]? = some (.str d.fil tf) ∧ K.lookup cc = some ⟨cl, cld, .cell (some (.ref C)), csl⟩
theorem ErrD.ok {K : PySem.W.Frag} {d : ErrD} (e : d.sees K = d.due) (c : d.good K = true) : ErrF K d (d.C K) (d.f K) := by
  unfold ErrD.good at c
  obtain ⟨c0, c⟩ := ba c
  obtain ⟨c1, c⟩ := ba c
  obtain ⟨c2, c⟩ := ba c
  obtain ⟨c3, c⟩ := ba c
  obtain ⟨c4, c⟩ := ba c
  obtain ⟨c5, c⟩ := ba c
  obtain ⟨c6, c⟩ := ba c
  obtain ⟨c7, c⟩ := ba c
  obtain ⟨c8, c⟩ := ba c
  obtain ⟨c9, c⟩ := ba c
  obtain ⟨c10, c⟩ := ba c
  obtain ⟨c11, c⟩ := ba c
  obtain ⟨c12, c⟩ := ba c
  obtain ⟨c13, c⟩ := ba c
  obtain ⟨c14, c15⟩ := ba c
  refine ⟨c0, rfl, ⟨ecB_ok c1, eqO_ok c2, of_decide_eq_true c3, of_decide_eq_true c4, c5⟩, xfB_ok c6, eqO_ok c7, eqO_ok c8, of_decide_eq_true c9, of_decide_eq_true c10, eqO_ok c11, of_decide_eq_true c12, of_decide_eq_true c13, of_decide_eq_true c14, ?_⟩
  unfold ErrD.sees ErrD.due at e
  split at e
  · rename_i oc od fd osl q
    rw [q] at c15
    obtain ⟨k1, k⟩ := ba c15
    obtain ⟨k2, k⟩ := ba k
    obtain ⟨k3, k⟩ := ba k
    obtain ⟨k4, k5⟩ := ba k
    replace k4 := of_decide_eq_true k4
    replace k5 := of_decide_eq_true k5
    obtain ⟨n1, n2, n3, n4, n5, n6, n7, n8, n9, n10, n11, n12, n13, n14, n15⟩ := fd
    simp only [Option.some.injEq, Prod.mk.injEq] at e
    obtain ⟨h1, h2, h3, h4, h5, h6, h7, h8⟩ := e
    obtain ⟨cda, ccl, cdd, vs, ccs, tf, rfl, a1, a2⟩ := codeB_ok k2
    obtain ⟨cc, cl, cld, csl, b1, b2⟩ := cellB_ok k3 h7
    dsimp only at b1 k4 k5
    subst h1 h2 h3 h4 h5 h6 h8 b1 k4 k5
    exact ⟨oc, od, n10, n11, n12, cda, n14, cc, osl, ccl, cdd, ccs, vs, tf, cl, cld, csl, q, k1, a1, a2, b2⟩
  · cases e
/-! ### the hook -/
/-- the closures' cells too -/
def asX (g : Addr → Option Obj) (n : Nat) : List Addr := asD g n ++ (asD g n).flatMap fun a => match g a with
  | some ⟨_, _, .func fd, _⟩ => fd.closure.map (·.2)
  | _ => []
def obsX (fs : List Fact) (ds : List DefA) (es : List ErrD) (K : PySem.W.Frag) : AlA := ((fs.all fun f => f K) && ((ds.all fun d => d.good K) && es.all fun d => d.good K), ds.map (fun d => d.sees K) ++ es.map fun d => d.sees K)
def valX (ds : List DefA) (es : List ErrD) : AlA := (true, ds.map DefA.due ++ es.map ErrD.due)
def SaysX (fs : List Fact) (ds : List DefA) (es : List ErrD) (K : PySem.W.Frag) : Prop := obsX fs ds es K = valX ds es
def obsXG (n : Nat) (fs : List Fact) (ds : List DefA) (es : List ErrD) (g : Addr → Option Obj) : AlA := obsX fs ds es (frG g (cStatics :: asX g n))
def hookX (n : Nat) (fs : List Fact) (ds : List DefA) (es : List ErrD) : PySem.W.Hook where
  α := AlA
  obs := fun s => obsXG n fs ds es s.heap.get?
  val := fun _ => valX ds es
  says := fun _ h => ∃ K : PySem.W.Frag, K.In h ∧ SaysX fs ds es K
  of := fun _ _ e => ⟨_, frG_in, e⟩
  keeps := fun _ _ _ ⟨K, hK, c⟩ k => ⟨K, PySem.W.Frag.In.keeps hK k, c⟩
theorem obsXG_eq {n : Nat} {fs : List Fact} {ds : List DefA} {es : List ErrD} {g : Addr → Option Obj} {s : Shared} (h : ∀ a, g a = s.heap.get? a) : obsXG n fs ds es g = (hookX n fs ds es).obs s := by
  have e : g = s.heap.get? := funext h
  subst e
  rfl
section
variable {fs : List Fact} {ds : List DefA} {es : List ErrD} {K : PySem.W.Frag}
theorem SaysX.fact (c : SaysX fs ds es K) (i : Nat) {f : Fact} (h : fs[i]? = some f := by rfl) : f K = true := by
  have z : ((fs.all fun f => f K) && ((ds.all fun d => d.good K) && es.all fun d => d.good K)) = true := congrArg (fun z : AlA => z.1) c
  exact List.all_eq_true.mp (ba z).1 f (List.mem_of_getElem? h)
theorem SaysX.two (c : SaysX fs ds es K) : ds.map (fun d => d.sees K) = ds.map DefA.due ∧ es.map (fun d => d.sees K) = es.map ErrD.due := by
  have e : ds.map (fun d => d.sees K) ++ es.map (fun d => d.sees K) = ds.map DefA.due ++ es.map ErrD.due := congrArg (fun z : AlA => z.2) c
  exact List.append_inj e (by rw [List.length_map, List.length_map])
theorem SaysX.def_ (c : SaysX fs ds es K) (i : Nat) {d : DefA} (h : ds[i]? = some d := by rfl) : ∃ fd, FunD K d.nme d.qul d.par d.bdy d.scp (d.dV K) (d.kV K) (d.way K) fd := by
  have z : ((fs.all fun f => f K) && ((ds.all fun d => d.good K) && es.all fun d => d.good K)) = true := congrArg (fun z : AlA => z.1) c
  have e := c.two.1
  have e2 : (ds.map fun d => d.sees K)[i]? = (ds.map DefA.due)[i]? := by rw [e]
  rw [List.getElem?_map, List.getElem?_map, h] at e2
  exact DefA.fun_ (Option.some.inj e2) (List.all_eq_true.mp (ba (ba z).2).1 d (List.mem_of_getElem? h))
theorem SaysX.err (c : SaysX fs ds es K) (i : Nat) {d : ErrD} (h : es[i]? = some d := by rfl) : ErrF K d (d.C K) (d.f K) := by
  have z : ((fs.all fun f => f K) && ((ds.all fun d => d.good K) && es.all fun d => d.good K)) = true := congrArg (fun z : AlA => z.1) c
  have e := c.two.2
  have e2 : (es.map fun d => d.sees K)[i]? = (es.map ErrD.due)[i]? := by rw [e]
  rw [List.getElem?_map, List.getElem?_map, h] at e2
  exact ErrD.ok (Option.some.inj e2) (List.all_eq_true.mp (ba (ba z).2).2 d (List.mem_of_getElem? h))
end
end Px

namespace Px
open PySem PySem.Spec PyProof.Rows L2
/-! ### readings of raise, try; values of any kind -/
def tRaiseE (E : XK) (t : L2.St → Hp → XK → Prop) : TS := fun _ σ H => t σ H fun cls d H' => E cls d H'
def tTryAs (K : PySem.W.Frag) (c : Value) (i : Nat) (ts : Addr → Value → Option Addr → TS) (Wout : WX) (tb : WX → TS) : TS := fun D σ H => tb (wAs K c i ts Wout D) D σ H
def tTryOnly (K : PySem.W.Frag) (c : Value) (ts : Addr → Value → Option Addr → TS) (Wout : WX) (tb : WX → TS) : TS := fun D σ H => tb (wOnly K c ts Wout D) D σ H
def rTupOf (K : PySem.W.Frag) : List V → Hp → VK → Prop := fun xs H Q => ∃ p ys, xs = [.ref p] ∧ ((SqL K H p ys ∧ ∀ l, H l = none → Q (.ref l) (upd H l (.tup ys))) ∨ (SqT K H p ys ∧ Q (.ref p) H))
section
variable {K : PySem.W.Frag} {H : Hp} {σ : S} {D : Ends} {Q : VK} {E : XK}
theorem r_raise {t : L2.St → Hp → XK → Prop} (h : t σ H fun cls d H' => E cls d H') : tRaiseE E t D σ H := h
theorem r_mkE {C : Addr} {fld : Str} {ta : TA} {E : XK} (h : ta σ H fun vs H1 => ∃ v, vs = [v] ∧ ∀ d, H1 d = none → E (.ref C) (some d) (upd H1 d (.xd [(fld, v)]))) : tMkE C fld ta σ H E := h
theorem r_callS {sp : Sp} {W : L2.St → XK} {ta : TA} (h : ta σ H fun vs H1 => sp vs H1 Q (W σ)) : tCallS sp W ta σ H Q := h
theorem r_tryAs {c : Value} {i : Nat} {ts : Addr → Value → Option Addr → TS} {Wout : WX} {tb : WX → TS} (h : tb (wAs K c i ts Wout D) D σ H) : tTryAs K c i ts Wout tb D σ H := h
theorem r_tryOnly {c : Value} {ts : Addr → Value → Option Addr → TS} {Wout : WX} {tb : WX → TS} (h : tb (wOnly K c ts Wout D) D σ H) : tTryOnly K c ts Wout tb D σ H := h
theorem r_wAs {C : Addr} {d : Option Addr} {i : Nat} {ts : Addr → Value → Option Addr → TS} {Wout : WX} (te : PySem.W.exmOne K (.ref C) (.ref C) = some true)
    (h : ∀ a, H a = none → ts a (.ref C) d { nx := fun σ' H' => D.nx (σ'.set i none) H', rt := D.rt, bk := fun σ' H' => D.bk (σ'.set i none) H', ct := fun σ' H' => D.ct (σ'.set i none) H' } (σ.set i (some (.ref a))) H) :
    wAs K (.ref C) i ts Wout D (.ref C) d σ H := ⟨true, te, fun _ => h, fun z => nomatch z⟩
theorem r_wOnly {C : Addr} {d : Option Addr} {ts : Addr → Value → Option Addr → TS} {Wout : WX} (te : PySem.W.exmOne K (.ref C) (.ref C) = some true) (h : ∀ a, H a = none → ts a (.ref C) d D σ H) :
    wOnly K (.ref C) ts Wout D (.ref C) d σ H := ⟨true, te, fun _ => h, fun z => nomatch z⟩
theorem r_xf {a C : Addr} {dd : Addr} {f : Str} {i : Nat} {v : V} {fs : List (Str × V)} (h0 : σ[i]? = some (some (.ref a))) (h1 : H dd = some (.xd fs)) (h2 : fs.lookup f = some v) (h : Q v H) : tXf a (.ref C) (some dd) C f (tVar i) σ H Q := by
  refine ⟨_, h0, ?_⟩
  exact ⟨rfl, rfl, dd, fs, v, rfl, h1, h2, h⟩
theorem r_tupOfL {p : Addr} {ys : List V} (h1 : SqL K H p ys) (h : ∀ l, H l = none → Q (.ref l) (upd H l (.tup ys))) : rTupOf K [.ref p] H Q := ⟨p, ys, rfl, .inl ⟨h1, h⟩⟩
theorem r_tupOfT {p : Addr} {ys : List V} (h1 : SqT K H p ys) (h : Q (.ref p) H) : rTupOf K [.ref p] H Q := ⟨p, ys, rfl, .inr ⟨h1, h⟩⟩
end
/-- values whose kind is known -/
inductive Kd (H : Hp) : V → String → Prop
  | int (i : Int) : Kd H (.int i) "int"
  | bl (b : Bool) : Kd H (.bl b) "bool"
  | non : Kd H .non "NoneType"
  | str (z : Str) : Kd H (.str z) "str"
  | lst {p : Addr} {xs : List V} : H p = some (.lst xs) → Kd H (.ref p) "list"
  | tup {p : Addr} {xs : List V} : H p = some (.tup xs) → Kd H (.ref p) "tuple"
theorem Kd.same {H H' : Hp} (s : Same H H') {v : V} {t : String} (h : Kd H v t) : Kd H' v t := by
  cases h with
  | int i => exact .int i
  | bl b => exact .bl b
  | non => exact .non
  | str z => exact .str z
  | lst h => exact .lst (s _ _ h)
  | tup h => exact .tup (s _ _ h)
theorem Kd.ty {K : PySem.W.Frag} {H : Hp} {v : V} {t : String} (h : Kd H v t) : TyOf K H v (.type t) := by
  cases h with
  | int i => exact .int i
  | bl b => exact .bl b
  | non => exact .non
  | str z => exact .str z
  | lst h => exact .lst h
  | tup h => exact .tup h
section
variable {K : PySem.W.Frag} {H : Hp} {Q : VK} {v : V} {t : String}
theorem r_isiK {c : String} {b : Bool} (k : Kd H v t) (h2 : kitB t c = some b) (h : Q (.bl b) H) : rIsi K [v, .ty c] H Q := r_isiB k.ty h2 h
theorem Kd.kinds (k : Kd H v t) : t = "int" ∨ t = "bool" ∨ t = "NoneType" ∨ t = "str" ∨ t = "list" ∨ t = "tuple" := by
  cases k <;> simp
/-- isinstance(v, int) and so on, for any known kind -/
theorem r_isiInt (k : Kd H v t) (h : Q (.bl (decide (t = "int") || decide (t = "bool"))) H) : rIsi K [v, .ty "int"] H Q := by
  cases k with
  | int i => exact r_isiK (.int i) (by decide +kernel) h
  | bl b => exact r_isiK (.bl b) (by decide +kernel) h
  | non => exact r_isiK .non (by decide +kernel) h
  | str z => exact r_isiK (.str z) (by decide +kernel) h
  | lst q => exact r_isiK (.lst q) (by decide +kernel) h
  | tup q => exact r_isiK (.tup q) (by decide +kernel) h
theorem r_isiBool (k : Kd H v t) (h : Q (.bl (decide (t = "bool"))) H) : rIsi K [v, .ty "bool"] H Q := by
  cases k with
  | int i => exact r_isiK (.int i) (by decide +kernel) h
  | bl b => exact r_isiK (.bl b) (by decide +kernel) h
  | non => exact r_isiK .non (by decide +kernel) h
  | str z => exact r_isiK (.str z) (by decide +kernel) h
  | lst q => exact r_isiK (.lst q) (by decide +kernel) h
  | tup q => exact r_isiK (.tup q) (by decide +kernel) h
theorem r_isiStr (k : Kd H v t) (h : Q (.bl (decide (t = "str"))) H) : rIsi K [v, .ty "str"] H Q := by
  cases k with
  | int i => exact r_isiK (.int i) (by decide +kernel) h
  | bl b => exact r_isiK (.bl b) (by decide +kernel) h
  | non => exact r_isiK .non (by decide +kernel) h
  | str z => exact r_isiK (.str z) (by decide +kernel) h
  | lst q => exact r_isiK (.lst q) (by decide +kernel) h
  | tup q => exact r_isiK (.tup q) (by decide +kernel) h
/-- isinstance(v, (list, tuple)) -/
theorem r_isiSeq {tp : Addr} (k : Kd H v t) (h2 : H tp = some (.tup [.ty "list", .ty "tuple"])) (h : Q (.bl (decide (t = "list") || decide (t = "tuple"))) H) : rIsiT K [v, .ref tp] H Q := by
  have go : ∀ (b : Bool), PySem.W.kitAny K (.type t) [.type "list", .type "tuple"] = some b → Q (.bl b) H → rIsiT K [v, .ref tp] H Q := fun b e q =>
    ⟨v, tp, [.ty "list", .ty "tuple"], .type t, [.type "list", .type "tuple"], b, rfl, h2, .cons (.ty "list") (.cons (.ty "tuple") .nil), .base k.ty, e, q⟩
  have no : ∀ {t : String}, kitB t "list" = some false → kitB t "tuple" = some false → PySem.W.kitAny K (.type t) [.type "list", .type "tuple"] = some false := fun a b =>
    kitAny_cons (b := false) (kit_ty a) (fun _ => kitAny_cons (b := false) (kit_ty b) (fun _ => rfl) (fun z => nomatch z)) (fun z => nomatch z)
  cases k with
  | int i => exact go false (no (by decide +kernel) (by decide +kernel)) h
  | bl b => exact go false (no (by decide +kernel) (by decide +kernel)) h
  | non => exact go false (no (by decide +kernel) (by decide +kernel)) h
  | str z => exact go false (no (by decide +kernel) (by decide +kernel)) h
  | lst q => exact r_isiTL q h2 h
  | tup q => exact r_isiTT q h2 h
end
end Px

/-! for i, x in enumerate(tuple) -/
namespace PySem
open Sem (wp)
open AutoSeq1 (wpAny_loadPart')
theorem meets_enumerate_newT (l : Addr) (items : Array Value) (n : Nat) (dct : Option Addr) (sl : Array (Option Value)) :
    Meets (Builtin.«enumerate.__new__» ⟨[.type "enumerate", .ref l], []⟩) (fun _ R s => s.heap.get? l = some { cls := .type "tuple", dict := dct, data := .seq items n, slots := sl } ∧
      R (.ok (.ret (.ref (s.heap.push { cls := .type "tuple_iterator", data := .fields #[.ref l, .int 0 0] }).objs.size)))
        { s with heap := (s.heap.push { cls := .type "tuple_iterator", data := .fields #[.ref l, .int 0 0] }).push { cls := .type "enumerate", data := .fields #[.none, .bool false, .ref s.heap.objs.size, rawInt 0, .none, .none] } }) :=
  .of_wp fun prog w A R s h => by
    obtain ⟨hp, g, d, tk, os⟩ := s; obtain ⟨hl, h⟩ := h
    have hsub := sub_enumerate
    have hL : Heap.IsTuple (Shared.heap ⟨hp, g, d, tk, os⟩) l items := ⟨_, hl, rfl, n, rfl⟩
    wp_walk using wpAny_loadPart' hl
    refine wpAny_stack_any fun st => wpAny_pure ?_
    split
    · rename_i c _ _ _ _ _
      cases (c == Value.type "enumerate")
      · wp_walk using wpAny_loadPart' hl, wpAny_pyIter_tuple hL
        exact ⟨_, rfl, h⟩
      · wp_walk using wpAny_loadPart' hl, wpAny_pyIter_tuple hL
        exact ⟨_, rfl, h⟩
    · wp_walk using wpAny_loadPart' hl, wpAny_pyIter_tuple hL
      exact ⟨_, rfl, h⟩
section
variable {prog : Program} {w : World} {A : Around} {E : Value → Shared → Prop} {s : Shared}
theorem call_enumerate_tup {l : Addr} {items : Array Value} {Q : Value → Shared → Prop} (hL : s.heap.IsTuple l items)
    (h : ∀ h', IsEnum h' (s.heap.objs.size + 1) s.heap.objs.size 0 .none → h'.IsTupleIter s.heap.objs.size l 0 → h'.objs.size = s.heap.objs.size + 2 →
      (∀ b o, s.heap.get? b = some o → h'.get? b = some o) → Q (.ref (s.heap.objs.size + 1)) { s with heap := h' }) :
    wpAny (model prog w) A (call (.type "enumerate") [.ref l]) Q E s := by
  obtain ⟨⟨c, dct, dt, sl⟩, hl, hc, n, hd⟩ := hL
  replace hc : c = .type "tuple" := hc
  replace hd : dt = .seq items n := hd
  subst hc hd
  refine callType_new F.called_enumerate (by decide) (F.typeCall_enumerate_1 _) (F.newCall_enumerate_1 _) (fun obj => F.args_object_init_2 obj _) F.entry_enumerate_new
    (meets_enumerate_newT l items n dct sl) ⟨hl, ?_⟩
  have hz : (s.heap.push { cls := .type "tuple_iterator", data := .fields #[.ref l, .int 0 0] }).objs.size = s.heap.objs.size + 1 := Heap.size_push ..
  show _ ∧ _
  rw [hz]
  have he : IsEnum ((s.heap.push { cls := .type "tuple_iterator", data := .fields #[.ref l, .int 0 0] }).push
      { cls := .type "enumerate", data := .fields #[.none, .bool false, .ref s.heap.objs.size, rawInt 0, .none, .none] }) (s.heap.objs.size + 1) s.heap.objs.size 0 .none := by
    have := Heap.get?_push_size (s.heap.push { cls := .type "tuple_iterator", data := .fields #[.ref l, .int 0 0] })
      (o := { cls := .type "enumerate", data := .fields #[.none, .bool false, .ref s.heap.objs.size, rawInt 0, .none, .none] }) rfl
    rw [hz] at this; exact this
  refine ⟨⟨_, he, rfl⟩, h _ he ⟨_, Heap.get?_push_of_some _ (Heap.get?_push_size _ rfl), rfl, rfl⟩ (by rw [Heap.size_push, hz]) fun b o x => Heap.get?_push_of_some _ (Heap.get?_push_of_some _ x)⟩
end
end PySem
namespace Px
open PySem PySem.Spec PyProof.Rows L2
/-- the tuple at a, each item in a new pair -/
def IteT (K : PySem.W.Frag) (a : Addr) : It :=
  ⟨fun i H => ∃ (xs : List V) (x : V), SqT K H a xs ∧ xs[i]? = some x, fun i H v H' => ∃ T x, v = .ref T ∧ H T = none ∧ H' = upd H T (.tup [.int (i : Nat), x]) ∧ ∀ xs, SqT K H a xs → xs[i]? = some x, fun i H => ∃ xs : List V, SqT K H a xs ∧ xs.length = i⟩
theorem turn_enumT {P : Program} {w : World} {K : PySem.W.Frag} {elts : List Expr} {kk : Nat} {tpos : Pos} (a e it : Addr) :
    Turn P w K (.Tuple elts kk tpos) (IteT K a) [e, it] e (fun i h => (∃ old, IsEnum h e it (0 + ((i : Nat) : Int)) old) ∧ h.IsTupleIter it a i ∧ e ≠ it) where
  mem := by simp
  obj := fun i h st b hb => by
    obtain ⟨⟨old, he⟩, ⟨o, ho, hc, hd⟩, _⟩ := st
    have e' : b = e ∨ b = it := by simpa using hb
    rcases e' with z | z
    · rw [z]; exact ⟨_, he, fun v q => nomatch q⟩
    · rw [z]; exact ⟨o, ho, fun v q => by rw [hd] at q; cases q⟩
  keep := fun i h h' st k => let ⟨⟨old, he⟩, hi, hne⟩ := st; ⟨⟨old, k e (by simp) _ he⟩, hi.at fun o q => k it (by simp) o q, hne⟩
  item := by
    intro X hP hw hK hc i pins s σ H E I hf st hg
    subst hP hw hK
    obtain ⟨he, hit, hne⟩ := st
    obtain ⟨xs, x, hq, hx⟩ := hg
    obtain ⟨its, rv, p, hz⟩ := I.tuple hq
    obtain ⟨u, hu, ru⟩ := rv.get hx
    have hit2 : a ≠ it := by
      intro z
      subst z
      obtain ⟨o, ho, hc2, hd2⟩ := hit
      obtain ⟨o2, ho2, _, n2, hd3⟩ := p
      rw [ho] at ho2; cases ho2
      rw [hd2] at hd3; cases hd3
    have hea : e ≠ a := by
      intro z
      subst z
      obtain ⟨old, he⟩ := he
      obtain ⟨o2, ho2, _, n2, hd3⟩ := p
      have he' : s.heap.get? e = _ := he
      rw [he'] at ho2; cases ho2
      cases hd3
    have G := GoesN.enumFrom (elts := elts) (x1 := kk) (pos := tpos) 0 (Draws.tuple (prog := X.prog) (w := X.w) (A := X.A.in1) (I.ok.hd hc) it a hit2 its.toArray) e hne (by simp [hne, hea]) (by simp)
    have lt : i < its.toArray.size := by
      have := rv.length
      have h2 : i < xs.length := (List.getElem?_eq_some_iff.mp hx).1
      simp only [List.size_toArray]
      omega
    have nw : ∀ b, b ∈ [e, it] → b < s.heap.objs.size := by
      intro b hb
      obtain ⟨old, he⟩ := he
      obtain ⟨o, ho, _⟩ := hit
      have e' : b = e ∨ b = it := by simpa using hb
      rcases e' with z | z
      · rw [z]; exact Heap.lt_size he
      · rw [z]; exact Heap.lt_size ho
    refine G.goes i s _ E lt ⟨he, hit, p⟩ fun v h' tk hy st' hk _ => ?_
    obtain ⟨T, t, y, rfl, hT, hy', ht⟩ := hy
    have ey : y = u := by
      have : its[i]? = some y := by simpa using hy'
      rw [hu] at this
      exact (Option.some.inj this).symm
    subst ey
    have hn : H T = none := I.hok.fresh hT
    have new : ObjOk X.prog X.w (upd H T (.tup [.int (i : Nat), x])) h' T (.tup [.int (i : Nat), x]) := ⟨by show 2 ≤ sizeLine; decide, [_, y], .cons ⟨t, by simp⟩ (.cons ru .nil), ht⟩
    refine ⟨.ref T, _, I.turnedNew (ch := [e, it]) (fun b o hb q => hk b o hb q) hf hT new, rfl, ⟨T, x, rfl, hn, rfl, fun ys hy => by rw [I.tuple_inj hy hq]; exact hx⟩, ⟨st'.1, st'.2.1, hne⟩, fun c hcm => ?_⟩
    rw [upd_ne (Nat.ne_of_lt (Nat.lt_of_lt_of_le (nw c hcm) hT))]
    exact (hf c hcm).1
  done := by
    intro X hP hw hK hc i pins s σ H E I hf st hg
    subst hP hw hK
    obtain ⟨he, hit, hne⟩ := st
    obtain ⟨xs, hq, hx⟩ := hg
    obtain ⟨its, rv, p, hz⟩ := I.tuple hq
    have hit2 : a ≠ it := by
      intro z
      subst z
      obtain ⟨o, ho, hc2, hd2⟩ := hit
      obtain ⟨o2, ho2, _, n2, hd3⟩ := p
      rw [ho] at ho2; cases ho2
      rw [hd2] at hd3; cases hd3
    have hea : e ≠ a := by
      intro z
      subst z
      obtain ⟨old, he⟩ := he
      obtain ⟨o2, ho2, _, n2, hd3⟩ := p
      have he' : s.heap.get? e = _ := he
      rw [he'] at ho2; cases ho2
      cases hd3
    have G := GoesN.enumFrom (elts := elts) (x1 := kk) (pos := tpos) 0 (Draws.tuple (prog := X.prog) (w := X.w) (A := X.A.in1) (I.ok.hd hc) it a hit2 its.toArray) e hne (by simp [hne, hea]) (by simp)
    have en : its.toArray.size = i := by
      have := rv.length
      simp only [List.size_toArray]
      omega
    rw [en] at G
    exact G.stops s _ E ⟨he, hit, p⟩ fun h' tk hk _ => I.turnedL (ch := [e, it]) (fun b o hb q => hk b o hb q) hf
  self := fun A i s Q E st h => let ⟨⟨_, he⟩, _⟩ := st; wpAny_pyIter_enum he h
def iEnumT (K : PySem.W.Frag) (ta : TA) : TI := fun σ H R => ta σ H fun vs H1 => ∃ a xs, vs = [.ref a] ∧ SqT K H1 a xs ∧ R (IteT K a) H1
theorem pi_enumT {X : Cx} {e : Expr} {ta : TA} {p pos tpos : Pos} {elts : List Expr} {kk : Nat} (hg : Gl X "enumerate") (hm : X.mg "enumerate" = none) (ha : PA X [e] ta) (hs : starEach [e] X.env = [(false, eval e X.env)] := by rfl) :
    PI X (.Tuple elts kk tpos) (.Call (.Name "enumerate" p) [e] [] pos) (iEnumT X.K ta) := by
  refine ⟨fun pins s σ H R I h => ?_⟩
  refine Call_ (ld_blt I hg hm boot_enumerate (PyProof.Rows.callWith_type1 (thn (ha.run pos pins s σ H _ I h) fun us s1 ⟨vs, H1, I1, r1, q1⟩ => ?_) hs rfl))
  obtain ⟨a, xs, ex, hq, q⟩ := q1
  subst ex
  cases r1 with
  | cons r rr =>
    cases rr
    cases r
    obtain ⟨its, rv, p', hz⟩ := I1.tuple hq
    refine PySem.call_enumerate_tup p' fun h' he hit hsz hk => wpAny_pyIter_enum he ?_
    have I2 : Inv X pins σ H1 { s1 with heap := h' } := I1.kept (t' := s1.toks) hk
    refine ⟨s1.heap.objs.size + 1, [s1.heap.objs.size + 1, s1.heap.objs.size], _, _, H1, rfl, I2, turn_enumT a (s1.heap.objs.size + 1) s1.heap.objs.size, ⟨⟨.none, he⟩, hit, Nat.succ_ne_self _⟩, fun b hb => ?_, q⟩
    have e' : b = s1.heap.objs.size + 1 ∨ b = s1.heap.objs.size := by simpa using hb
    have hle : s1.heap.objs.size ≤ b := by
      rcases e' with z | z
      · rw [z]; exact Nat.le_add_right _ _
      · rw [z]; exact Nat.le_refl _
    exact I1.fpOk hle (I1.hok.fresh hle)
theorem walk_enumT {K : PySem.W.Frag} {a : Addr} {xs : List V} : Walk (IteT K a) xs.length (fun H => SqT K H a xs) (YPair (fun i => some (.int (i : Nat))) (fun i => xs[i]?)) := by
  refine ⟨fun i _ hi q => ⟨xs, xs[i], q, by simp [hi]⟩, fun _ q => ⟨xs, q, rfl⟩, fun i H v H' _ q y => ?_⟩
  obtain ⟨T, x, h1, h2, h3, h4⟩ := y
  exact ⟨T, .int (i : Nat), x, h1, h2, h3, rfl, h4 xs q⟩
/-- over a list, a text or a tuple -/
def iEnumA (K : PySem.W.Frag) (ta : TA) : TI := fun σ H R => iEnumU K ta σ H R ∨ iEnumT K ta σ H R
theorem pi_enumA {X : Cx} {e : Expr} {ta : TA} {p pos tpos : Pos} {elts : List Expr} {kk : Nat} (hg : Gl X "enumerate") (hm : X.mg "enumerate" = none) (ha : PA X [e] ta) (hs : starEach [e] X.env = [(false, eval e X.env)] := by rfl) :
    PI X (.Tuple elts kk tpos) (.Call (.Name "enumerate" p) [e] [] pos) (iEnumA X.K ta) := PI.or (pi_enumU hg hm ha hs) (pi_enumT hg hm ha hs)
section
variable {K : PySem.W.Frag} {σ : S} {H : Hp} {tr : TA}
theorem r_enumAL {R : It → Hp → Prop} (h : tr σ H fun vs H1 => ∃ a xs, vs = [.ref a] ∧ SqL K H1 a xs ∧ R (Ite K a) H1) : iEnumA K tr σ H R := .inl (.inl h)
theorem r_enumAS {R : It → Hp → Prop} (h : tr σ H fun vs H1 => ∃ z : Str, vs = [.str z] ∧ R (ItP z.cps.size (fun i => some (.int (i : Nat))) (sgn z)) H1) : iEnumA K tr σ H R := .inl (.inr h)
theorem r_enumAT {R : It → Hp → Prop} (h : tr σ H fun vs H1 => ∃ a xs, vs = [.ref a] ∧ SqT K H1 a xs ∧ R (IteT K a) H1) : iEnumA K tr σ H R := .inr h
end
end Px

/-! o != p by an own __eq__; C.m(k = v) of a classmethod; cls(.., k = v) -/
namespace Px
open PySem PySem.Spec PyProof.Rows L2 ClX
section
variable {prog : Program} {w : World} {A A₀ : Around} {E : Value → Shared → Prop} {s : Shared} {K : PySem.W.Frag} {x C L f : Addr} {h₀ : Heap} {m : Str → Option Value} {ox : Obj} {od : Option Obj} {b tb : Value}
theorem ifBound_B {M : Model} {name : Str} {id T : String} {args : List Value} {Q : Option Value → Shared → Prop} (X : K.In s.heap) (I : PySem.W.InstAt s.heap x ox C od) (hs : PySem.W.findIn K (.ref C) name = some (some (.builtin id))) (S : Slot T name id)
    (h : wpAny M A (call (.builtin id) (.ref x :: args)) (fun v => Q (some v)) E s) : wpAny M A (callSpecialIfBound? (.ref x) name args) Q E s := by
  simp only [callSpecialIfBound?, bindSpecialIfBound?]
  refine wpAny_holding (wpAny_bind (wpAny_bind (wpAny_bind (I.type.here ((PySem.W.looks_findIn X hs).here ?_)))))
  simp only [S.bind]
  refine wpAny_bind (wpAny_askSetting (wpAny_ite ?_))
  have fin : wpAny M A (call (.builtin id) ([.ref x] ++ args) >>= fun v => pure (some v)) Q E s := wpAny_bind (wpAny_mono h (fun v s' h' => wpAny_pure h') fun _ _ h' => h')
  split
  · exact wpAny_bind (wpAny_pure (wpAny_pure (by exact fin)))
  · exact wpAny_tryCatch (wpAny_bind (wpAny_pure (wpAny_pure (by exact fin))))
theorem objNe_own {Q : Fin → Shared → Prop} (X : K.In s.heap) (I : PySem.W.InstAt s.heap x ox C od) (hs : PySem.W.findIn K (.ref C) "__eq__" = some (some (.ref f))) (hf : PySem.W.isFn K (.ref f) = true) (hu : A.units < cLine)
    (h : wpAny (model prog w) A (call (.ref f) [.ref x, b]) (fun v s' => ∃ r, v = .bool r ∧ Q (.done (.ret (.bool (!r)))) s') E s) : wpAny (model prog w) A (Builtin.«object.__ne__» ⟨[.ref x, b], []⟩) Q E s := by
  unfold Builtin.«object.__ne__»
  repeat (first
    | with_reducible refine wpAny_cRoomFor hu ?_
    | (refine wpAny_bind (m := callSpecialIfBound? (.ref x) (Str.ofString "__eq__") [b])
        (PySem.W.ifBound_K X I hs hf (wpAny_mono h (fun r s' hr => by
          obtain ⟨b, rfl, hq⟩ := hr
          repeat (first | exact hq | exact wpAny_pure hq | exact wpAny_truthy_bool hq | (refine wpAny_bind (m := truthy (.bool _)) (wpAny_truthy_bool ?_)) | wp_step)) fun _ _ e => e)))
    | wp_step)
theorem rc_neOwn {Q : Value → Shared → Prop} (hu : A.units + 1 < cLine) (Fm : Fr h₀ L s.heap m) (X₀ : K.In h₀) (I : PySem.W.InstAt s.heap x ox C od) (hb : PySem.W.Looks (model prog w) s.heap (typeOf b) (.ref C))
    (hne : PySem.W.findIn K (.ref C) "__ne__" = some (some (.builtin "object.__ne__"))) (hm : PySem.W.mroIn K C (.type "object") = some true)
    (hs : PySem.W.findIn K (.ref C) "__eq__" = some (some (.ref f))) (hf : PySem.W.isFn K (.ref f) = true)
    (h : wpAny (model prog w) A.in1 (call (.ref f) [.ref x, b]) (fun v s' => ∃ r, v = .bool r ∧ Q (.bool (!r)) s') E s) : wpAny (model prog w) A (richCompare .NotEq (.ref x) b) Q E s := by
  have X := X₀.keeps Fm.keep
  have sub : PySem.W.Looks (model prog w) s.heap (isInstance (.ref x) (.type "object")) true := I.type.andThen (PySem.W.looks_mroIn X hm)
  have one : wpAny (model prog w) A (tryCompare (.ref x) "__ne__" b) (fun r s' => ∃ v, r = some v ∧ Q v s') E s := by
    unfold tryCompare
    refine wpAny_bind (ifBound_B X I hne PySem.F.cmp_object.ne (wpAny_call (codeAny_call_builtin PySem.F.cmp_object.ne.plain PySem.F.cmpEntry_ne
      (PySem.W.check_slot PySem.F.cmpKind_ne PySem.F.cmpSplit_ne sub (PySem.F.cmpArgs_ne _ _) (objNe_own (A := A.in1) X I hs hf hu (wpAny_mono h (fun v s' hv => ?_) fun _ _ e => e))))))
    obtain ⟨r, rfl, hq⟩ := hv
    exact ⟨r, rfl, wpAny_pure ⟨_, rfl, hq⟩⟩
  unfold richCompare
  simp only [oneThing_ref]
  refine wpAny_holding (wpAny_bind (wpAny_cRoomFor (Nat.lt_of_succ_lt hu) ?_))
  refine wpAny_bind (I.type.here (wpAny_bind (hb.here ?_)))
  rw [show (Value.ref C != Value.ref C) = false from by simp]
  rw [cmpInfo_NotEq]
  simp only [Bool.false_eq_true, if_false]
  refine wpAny_bind (wpAny_pure ?_)
  simp only [Bool.false_eq_true, if_false]
  refine wpAny_bind (wpAny_mono one (fun r s' z => ?_) fun _ _ e => e)
  obtain ⟨v, rfl, hq⟩ := z
  exact wpAny_pure hq
end
/-- o != p, both of the class at C, by C's own __eq__ -/
def rNeOwn (C : Addr) (sp : Sp) (E : XK) : R2 := fun x y H Q => ∃ a b dx dy fs gs, x = .ref a ∧ y = .ref b ∧ H a = some (.ins C dx fs) ∧ H b = some (.ins C dy gs) ∧ sp [.ref a, .ref b] H (fun v H' => ∃ k, v = .bl k ∧ Q (.bl (!k)) H') E
/-- what the class says of != -/
structure NeC (K : PySem.W.Frag) (C : Addr) : Prop where
  ne : PySem.W.findIn K (.ref C) "__ne__" = some (some (.builtin "object.__ne__"))
  ob : PySem.W.mroIn K C (.type "object") = some true
def fNe (C : Str) : Fact := fun K => He.eqO (PySem.W.findIn K (.ref (He.ga K C)) "__ne__") (some (some (.builtin "object.__ne__"))) && decide (PySem.W.mroIn K (He.ga K C) (.type "object") = some true)
theorem fNe_ok {C : Str} {K : PySem.W.Frag} (h : fNe C K = true) : NeC K (He.ga K C) := by
  obtain ⟨h1, h2⟩ := He.ba h
  exact ⟨He.eqO_ok h1, of_decide_eq_true h2⟩
section
variable {X : Cx} {CX : CXT} {k : Nat} {C f : Addr} {fd : FuncData} {ps : List Str} {sp : Sp} {E : XK}
theorem op_neOwn (F : FnOk X.prog X.w X.K X.mg X.base CX k f fd ps sp) (hr : Room (k + 1) X.A) (N : NeC X.K C) (D : Meth X.K C "__eq__" f) (hb : Binds X.K fd ps []) (hx : Passes CX X E) : OpR X (compareOp .NotEq) (rNeOwn C sp E) := by
  intro pins s σ H x y v u Q I rx ry hq
  obtain ⟨a, b, dx, dy, fs, gs, rfl, rfl, ha, hb', q⟩ := hq
  cases rx
  cases ry
  obtain ⟨mA, J, _⟩ := ins_get I.hok ha
  obtain ⟨mB, J', _⟩ := ins_get I.hok hb'
  obtain ⟨od, J, _⟩ := J.look
  obtain ⟨od', J', _⟩ := J'.look
  obtain ⟨m, hF⟩ := I.fr
  show wpAny (model X.prog X.w) X.A (richCompare .NotEq (.ref a) (.ref b)) _ _ _
  refine rc_neOwn (hr.in1).units0 hF I.ok.mod.kin J J'.type N.ne N.ob D.at_ D.fn ?_
  have hl := F.len _ _ _ _ q
  have r2 : Vals [V.ref a, V.ref b] [Value.ref a, Value.ref b] := .cons rfl (.cons rfl .nil)
  refine wpAny_call (codeAny_mono (F.run X.A.in1 X.stack s H ⟨[.ref a, .ref b], []⟩ [.ref a, .ref b] [.ref a, .ref b] _ E hr.in1 I.env0.in1 (by
    have := hb s [.ref a, .ref b] I.kIn (by simpa using hl)
    simpa using this) r2 q) fun r s' hq => ?_)
  cases r with
  | error e => exact hx pins σ H s e s' I hq
  | ok fl =>
    cases fl with
    | ret w =>
      obtain ⟨z, H', I', rz, n, ez, q'⟩ := I.after hq
      subst ez
      cases rz
      exact ⟨n, rfl, .bl (!n), H', I', rfl, q'⟩
    | next => exact False.elim hq
    | brk => exact False.elim hq
    | cont => exact False.elim hq
end
/-- C.m(k = v, ..), C.m(): m a classmethod -/
def tCMethK (C : Addr) (m : Nat) (sp : Sp) (gV : List V → List V → List V) (E : L2.St → XK) (ta : TE) (tk : TA) : TE := fun σ H Q => ta σ H fun x H1 => x = .ref C ∧ tk σ H1 fun zs H2 => zs.length = m ∧ sp (gV [.ref C] zs) H2 Q (E σ)
/-- cls(e, .., k = v, ..), the class in slot i -/
def tMakeLK (i : Nat) (C : Addr) (n m : Nat) (sp : Sp) (gV : List V → List V → List V) (E : XK) (t tk : TA) : TE := fun σ H Q => σ[i]? = some (some (.ref C)) ∧ tMakeK C n m sp gV E t tk σ H Q
section
variable {X : Cx} {CX : CXT} {k n i : Nat} {C p f g : Addr} {mc : Value} {fd : FuncData} {ps ks : List Str} {sp : Sp} {x m : Str} {o e : Expr} {es : List Expr} {kws : List Keyword} {ta : TE} {t tk : TA} {gg : List Value → List Value → List Value} {gV : List V → List V → List V} {pos apos np : Pos} {pl : Sem Bool}
theorem pe_cmethK {E : L2.St → XK} (he : PE X o ta) (r : CRead X.K C mc) (c : CMet X.K C mc m p g) (F : FnOk X.prog X.w X.K X.mg X.base CX k g fd ps sp) (hr : Room k X.A) (hb : KBn X.K fd ps 1 ks gg gV) (hx : ∀ σ, PassesAt CX X σ (E σ)) (hkw : PK X kws tk)
    (hall : (backToKw pos (keywordEach kws X.env)).all (·.1.isSome) = true := by rfl) (hks : (backToKw pos (keywordEach kws X.env)).filterMap (·.1) = ks := by rfl)
    (hpl : ((backTo pos (starEach [] X.env)).any (·.1) || (backToKw pos (keywordEach kws X.env)).any (·.1.isNone)) = false := by rfl)
    (ht : eval (.Call (.Attribute o m apos) [] kws pos) X.env = (do
      let ov ← eval o X.env
      standAt apos.atName
      let (f, first) ← holding [ov] (getMethod ov m pl)
      callWith pos f first (backTo pos (starEach [] X.env)) (backToKw pos (keywordEach kws X.env))) := by rfl) :
    PE X (.Call (.Attribute o m apos) [] kws pos) (tCMethK C ks.length sp gV E ta tk) := by
  refine ⟨fun pins s σ H Q I h => ?_⟩
  refine PySem.W.methodCall_KW (pl := pl) (thn (he.run pins s σ H _ I h) fun u s1 ⟨x, H1, I1, rx, ex, q⟩ => ?_) ht
  subst ex
  obtain rfl : u = Value.ref C := rx
  refine getmethcm_ok I1 r c fun s2 I2 => ?_
  refine PySem.W.callWith_of hpl (PySem.W.keeps_M (K := X.K) (self := .ref C) c.fi) (evalArgs_kw2_nil hall ?_)
  refine thn (hkw.run pos _ s2 σ H1 _ I2 q) fun ws s3 ⟨zs, H2, I3, rz, l2, q2⟩ => ⟨⟨pin_at I3, I3.kIn⟩, ?_⟩
  rw [hks]
  have z : wpAny (model X.prog X.w) X.A (call (.ref s1.heap.objs.size) [] (ks.zip ws)) (EP X ((s1.heap.objs.size, PySem.W.methodObj (.ref g) (.ref C)) :: pins) σ Q) X.xe s3 :=
    wpAny_call (PySem.W.method_call (pin_at I3) (codeAny_mono (F.run X.A X.stack s3 H2 ⟨[.ref C], ks.zip ws⟩ (gg [.ref C] ws) (gV [.ref C] zs) Q (E σ) hr I3.env0 (hb.to _ [.ref C] ws I3.kIn rfl (rz.length.symm.trans l2)) (hb.rel (.cons rfl .nil) rz) q2) fun r s' hq => by
      cases r with
      | error e => exact hx σ _ H2 s3 e s' I3 hq
      | ok fl =>
        cases fl with
        | ret u => exact I3.after hq
        | next => exact False.elim hq
        | brk => exact False.elim hq
        | cont => exact False.elim hq))
  exact thn z fun _ _ y => unpinE y
theorem pe_makeLK {E : XK} (M : Mk X.K C f) (F : FnOk X.prog X.w X.K X.mg X.base CX k f fd ps sp) (hr : Room (k + 1) X.A) (hN : X.N[i]? = some x) (hv : Vis X.env.scope x) (hb : KBn X.K fd ps (n + 1) ks gg gV) (hx : Passes CX X E) (ha : PA X (e :: es) t) (hkw : PK X kws tk)
    (hall : (backToKw pos (keywordEach kws X.env)).all (·.1.isSome) = true := by rfl) (hks : (backToKw pos (keywordEach kws X.env)).filterMap (·.1) = ks := by rfl) (hdb : (x == ("__debug__" : Str)) = false := by decide) (hcd : (x == ("__classdict__" : Str)) = false := by decide)
    (he : starEach (e :: es) X.env = (false, eval e X.env) :: starEach es X.env := by rfl) (hpl : ((backTo pos (starEach (e :: es) X.env)).any (·.1) || (backToKw pos (keywordEach kws X.env)).any (·.1.isNone)) = false := by rfl) :
    PE X (.Call (.Name x np) (e :: es) kws pos) (tMakeLK i C n ks.length sp gV E t tk) := by
  refine ⟨fun pins s σ H Q I h => ?_⟩
  obtain ⟨hs, ht⟩ := h
  refine wpAny_Call_Name_kw (thn ((pe_var (pos := np) hN hv hdb hcd).run pins s σ H (fun v H1 => v = .ref C ∧ H1 = H) I ⟨.ref C, hs, rfl, rfl⟩) fun u s0 ⟨v, H0, I0, r1, q1⟩ => ?_)
  obtain ⟨rfl, rfl⟩ := q1
  cases r1
  refine PySem.W.callWith_KW (h₀ := X.base) I.ok.mod.kin M.kp hall (thn (ha.run pos pins s0 σ _ _ I0 ht) fun us s1 ⟨vs, H1, I1, r, q⟩ => ?_) hpl he
  refine thn (hkw.run pos pins s1 σ H1 _ I1 q) fun ws s2 ⟨zs, H2, I2, rz, l1, l2, q2⟩ => ⟨I2.kIn, ?_⟩
  rw [hks]
  exact run_makeK M F hr hb hx I2 r rz l1 l2 q2
end
/-! ### the head: classmethods -/
def wCls (C m : Str) (K : PySem.W.Frag) : Addr := He5.wf K (He.ga K C) "classmethod" m
def fCMet (C m : Str) : Fact := fun K => He5.wrapB K (He.ga K C) "classmethod" "classmethod.__get__" m && PySem.W.fnIn K (He5.wf K (He.ga K C) "classmethod" m)
theorem fCMet_ok {C m : Str} {K : PySem.W.Frag} (h : fCMet C m K = true) : CMet K (He.ga K C) (.type "type") m (He.ma K (He.ga K C) m) (wCls C m K) := by
  obtain ⟨h1, h2⟩ := He.ba h
  exact He5.cmet_of h1 h2
theorem passLS {X : Cx} : ∀ σ : L2.St, PassesAt (L2.CX X.prog X.w) X σ E0 := fun σ pins H s e s' I c => passL pins σ H s e s' I c
/-! ### isinstance of instances of an own class -/
structure InsC (K : PySem.W.Frag) (C : Addr) : Prop where
  cl : Cls K C
  ha : PySem.W.findIn K (.ref C) "__class__" = some (some (.builtin "object.__class__"))
  hn : PySem.W.specialIn K (.builtin "object.__class__") "__get__" = some (some (.builtin "getset_descriptor.__get__"))
  htk : PySem.W.takesIn K (.builtin "object.__class__") = some true
  hm : PySem.W.mroIn K C (.type "object") = some true
  me : PySem.W.kitOne K (.ref C) (.ref C) = some true
def fIns (C : Str) : Fact := fun K => (He.Fa.cls C).ok K && (He.eqO (PySem.W.findIn K (.ref (He.ga K C)) "__class__") (some (some (.builtin "object.__class__"))) && (He.eqO (PySem.W.specialIn K (.builtin "object.__class__") "__get__") (some (some (.builtin "getset_descriptor.__get__"))) &&
  (decide (PySem.W.takesIn K (.builtin "object.__class__") = some true) && (decide (PySem.W.mroIn K (He.ga K C) (.type "object") = some true) && decide (PySem.W.kitOne K (.ref (He.ga K C)) (.ref (He.ga K C)) = some true)))))
theorem fIns_ok {C : Str} {K : PySem.W.Frag} (h : fIns C K = true) : InsC K (He.ga K C) := by
  obtain ⟨h0, h⟩ := He.ba h
  obtain ⟨h1, h⟩ := He.ba h
  obtain ⟨h2, h⟩ := He.ba h
  obtain ⟨h3, h⟩ := He.ba h
  obtain ⟨h4, h5⟩ := He.ba h
  exact ⟨He.cls_ok h0, He.eqO_ok h1, He.eqO_ok h2, of_decide_eq_true h3, of_decide_eq_true h4, of_decide_eq_true h5⟩
theorem r_isC {K : PySem.W.Frag} {C a dx : Addr} {fs : List (Str × V)} {H : Hp} {Q : VK} (c : InsC K C) (ha : H a = some (.ins C dx fs)) (h : Q (.bl true) H) : rIsi K [.ref a, .ref C] H Q :=
  ⟨.ref a, .ref C, .ref C, .ref C, true, rfl, .own C, .base (TyOf.ins ha c.cl c.ha c.hn c.htk c.hm), c.me, h⟩
section
variable {K : PySem.W.Frag} {H : Hp} {Q : VK} {σ : S}
theorem r_cmethK {C : Addr} {m : Nat} {sp : Sp} {gV : List V → List V → List V} {E : L2.St → XK} {tk : TA} (h : tk σ H fun zs H2 => zs.length = m ∧ sp (gV [.ref C] zs) H2 Q (E σ)) : tCMethK C m sp gV E (tC (.ref C)) tk σ H Q := ⟨rfl, h⟩
end
end Px

/-! rows of signs, over lists of numbers -/
namespace KR
/-- rows with a line feed between -/
def jn : List (List Nat) → List Nat
  | [] => []
  | [x] => x
  | x :: y :: r => x ++ 10 :: jn (y :: r)
theorem jn_cons {x : List Nat} {r : List (List Nat)} (h : r ≠ []) : jn (x :: r) = x ++ 10 :: jn r := by
  match r, h with
  | y :: r, _ => rfl
def Free (l : List Nat) : Prop := ∀ c ∈ l, c ≠ 10
theorem cut_first : ∀ {a b s t : List Nat}, Free a → Free b → a ++ 10 :: s = b ++ 10 :: t → a = b ∧ s = t
  | [], [], s, t, _, _, h => ⟨rfl, (List.cons.inj h).2⟩
  | [], y :: b, s, t, _, hb, h => absurd (List.cons.inj h).1.symm (hb y (List.mem_cons_self ..))
  | x :: a, [], s, t, ha, _, h => absurd (List.cons.inj h).1 (ha x (List.mem_cons_self ..))
  | x :: a, y :: b, s, t, ha, hb, h => by
    obtain ⟨h1, h2⟩ := List.cons.inj h
    obtain ⟨h3, h4⟩ := cut_first (fun c hc => ha c (List.mem_cons_of_mem _ hc)) (fun c hc => hb c (List.mem_cons_of_mem _ hc)) h2
    exact ⟨by rw [h1, h3], h4⟩
theorem no_cut {a b t : List Nat} (ha : Free a) (h : a = b ++ 10 :: t) : False := ha 10 (by rw [h]; simp) rfl
theorem jn_inj : ∀ {p q : List (List Nat)}, p ≠ [] → q ≠ [] → (∀ x ∈ p, Free x) → (∀ x ∈ q, Free x) → jn p = jn q → p = q
  | [x], [y], _, _, _, _, h => by
    have e : x = y := h
    rw [e]
  | [x], y :: z :: r, _, _, hp, _, h => (no_cut (hp x (List.mem_cons_self ..)) (show x = y ++ 10 :: jn (z :: r) from h)).elim
  | x :: z :: r, [y], _, _, _, hq, h => (no_cut (hq y (List.mem_cons_self ..)) (show y = x ++ 10 :: jn (z :: r) from h.symm)).elim
  | x :: x2 :: r, y :: y2 :: t, _, _, hp, hq, h => by
    obtain ⟨h1, h2⟩ := cut_first (hp x (List.mem_cons_self ..)) (hq y (List.mem_cons_self ..)) (show x ++ 10 :: jn (x2 :: r) = y ++ 10 :: jn (y2 :: t) from h)
    have ih := jn_inj (p := x2 :: r) (q := y2 :: t) (by simp) (by simp) (fun z hz => hp z (List.mem_cons_of_mem _ hz)) (fun z hz => hq z (List.mem_cons_of_mem _ hz)) h2
    rw [h1, ih]
  | [], _, h, _, _, _, _ => absurd rfl h
  | _ :: _, [], _, h, _, _, _ => absurd rfl h
theorem count_jn : ∀ {p : List (List Nat)}, p ≠ [] → (jn p).count 10 + 1 = p.length + p.flatten.count 10
  | [x], _ => by simp [jn]; omega
  | x :: y :: r, _ => by
    have ih := count_jn (p := y :: r) (by simp)
    rw [jn_cons (by simp), List.count_append, List.count_cons_self, List.flatten_cons, List.count_append]
    simp only [List.length_cons] at ih ⊢
    omega
  | [], h => absurd rfl h
theorem free_of {p : List (List Nat)} (h : p ≠ []) (e : p.length = (jn p).count 10 + 1) : ∀ x ∈ p, Free x := by
  have c := count_jn h
  have z : p.flatten.count 10 = 0 := by omega
  intro x hx c hc e10
  rw [e10] at hc
  exact (List.count_eq_zero.mp z) (List.mem_flatten.mpr ⟨x, hx, hc⟩)
theorem rows_num {n w r l : Nat} (hw : 0 < w) (h : n = w * r + l) (h1 : 1 ≤ l) (h2 : l ≤ w) : r + 1 = (n + w - 1) / w := by
  subst h
  have e : w * r + l + w - 1 = (l - 1) + w * (r + 1) := by rw [Nat.mul_add, Nat.mul_one]; omega
  rw [e, Nat.add_mul_div_left _ _ hw, Nat.div_eq_of_lt (by omega), Nat.zero_add]
theorem flat_len {w : Nat} : ∀ {p : List (List Nat)}, (∀ x ∈ p, x.length = w) → p.flatten.length = w * p.length
  | [], _ => rfl
  | x :: r, h => by
    rw [List.flatten_cons, List.length_append, h x (List.mem_cons_self ..), flat_len fun y hy => h y (List.mem_cons_of_mem _ hy), List.length_cons, Nat.mul_add, Nat.mul_one, Nat.add_comm]
end KR

namespace Px
open PySem PySem.Spec PyProof.Rows L2
local macro_rules | `(tactic| walk_at "ne") => `(tactic| first
  | assumption
  | (refine Ne.symm ?_; assumption)
  | (refine ne_of_none (H := ?xH) (o := ?xo) ?xa ?xb; (case xb => assumption); (case xa => walk_at "hp"))
  | (refine Ne.symm (ne_of_none (H := ?xH) (o := ?xo) ?xa ?xb); (case xb => assumption); (case xa => walk_at "hp"))
  | ((refine ne_of (H := ?xH) (o := ?xo) (u := ?xu) ?xa ?xb ?xc); (case xa => walk_at "hp"); (case xb => walk_at "hp"); (case xc => (intro z; cases z))))
local macro_rules | `(tactic| walk_at "hp") => `(tactic| first
  | assumption
  | ((refine gs (H := ?xH) ?xa ?xb); (case xa => assumption); (case xb => walk_at "hp"))
  | ((refine gb (b := ?xB) (H := ?xH) ?xa ?xc ?xb); (case xa => assumption); (case xb => walk_at "hp"); (case xc => walk_at "ne"))
  | exact upd_same
  | ((refine gu ?xa ?xb); (case xb => walk_at "hp"); (case xa => walk_at "ne")))
local macro_rules | `(tactic| walk_at "hl") => `(tactic| first
  | assumption
  | (refine ql ?_; walk_at "hp")
  | ((refine gsl (H := ?xH) ?xa ?xb); (case xa => assumption); (case xb => walk_at "hl"))
  | ((refine gbl (b := ?xB) (H := ?xH) ?xa ?xc ?xb); (case xa => assumption); (case xb => walk_at "hl"); (case xc => walk_at "ne")))
local macro_rules | `(tactic| walk_at "ht") => `(tactic| first
  | assumption
  | (refine qt ?_; walk_at "hp")
  | ((refine gst (H := ?xH) ?xa ?xb); (case xa => assumption); (case xb => walk_at "ht"))
  | ((refine gbt (b := ?xB) (H := ?xH) ?xa ?xc ?xb); (case xa => assumption); (case xb => walk_at "ht"); (case xc => walk_at "ne")))
local macro_rules | `(tactic| walk_at "hq") => `(tactic| first
  | assumption
  | ((refine IsQ.same (H := ?xH) ?xb ?xa); (case xa => assumption); (case xb => walk_at "hq")))
local macro_rules | `(tactic| walk_at "sz") => `(tactic| first
  | (show _ ≤ sizeLine; decide)
  | (refine small_line ?_; (simp only [List.length_map, List.length_append, List.length_cons, List.length_nil] at *); omega))
local macro_rules | `(tactic| walk_at "rd0") => `(tactic| first
  | (with_reducible refine r_yes ?_)
  | ((with_reducible refine r_listL (xs := ?xs) ?x1 ?_); (case x1 => walk_at "hl"))
  | (with_reducible refine r_nx ?_)
  | (with_reducible refine r_rt ?_)
  | (with_reducible refine r_bk ?_)
  | (with_reducible refine r_ct ?_)
  | ((with_reducible refine r_isiT (xs := ?xs) ?x1 ?_); (case x1 => walk_at "hp"))
  | (with_reducible refine r_bm ?_)
  | (with_reducible refine r_for ?_)
  | (with_reducible refine r_lc ?_)
  | (with_reducible refine r_asg ?_)
  | ((with_reducible refine r_var (v := ?xv) ?x1 ?_); (case x1 => rfl))
  | (with_reducible refine r_c ?_)
  | (with_reducible refine r_op ?_)
  | (with_reducible refine r_cons ?_)
  | (with_reducible refine r_nil ?_)
  | (with_reducible refine r_gname ?_)
  | (with_reducible refine r_I0 ?_)
  | (with_reducible refine r_addUI ?_)
  | (with_reducible refine r_eqUI ?_)
  | (with_reducible refine r_neUI ?_)
  | (with_reducible refine r_eqUS ?_)
  | (with_reducible refine r_neUS ?_)
  | (with_reducible refine r_eqUB ?_)
  | (with_reducible refine r_test ?_)
  | (with_reducible refine r_bl ?_)
  | (with_reducible refine r_int ?_)
  | (with_reducible refine r_ifs ?_)
  | (with_reducible refine r_ret ?_)
  | (with_reducible refine r_next ?_)
  | (with_reducible refine r_call ?_)
  | (with_reducible refine r_cb ?_)
  | (with_reducible refine r_tup ?_)
  | (with_reducible refine r_lst ?_)
  | (with_reducible refine r_gsub ?_)
  | ((with_reducible refine r_setL (xs := ?xs) (j := ?xj) ?x1 ?x2 ?_); (case x1 => walk_at "hp"); (case x2 => rfl))
  | ((with_reducible refine r_ixL (xs := ?xs) (v := ?xv) ?x1 ?x2 ?_); (case x1 => walk_at "hl"); (case x2 => first | rfl | assumption))
  | ((with_reducible refine r_ixT (xs := ?xs) (v := ?xv) ?x1 ?x2 ?_); (case x1 => walk_at "ht"); (case x2 => first | rfl | assumption))
  | (with_reducible refine r_gcons ?_)
  | (with_reducible refine r_gnil ?_)
  | ((with_reducible refine r_gtup (xs := ?xs) ?x1 ?x2 ?_); (case x1 => walk_at "ht"); (case x2 => rfl))
  | ((with_reducible refine r_aug (x := ?xv) ?x1 ?_); (case x1 => rfl))
  | (with_reducible refine r_iaddI ?_)
  | (with_reducible refine r_par ?_)
  | (with_reducible refine r_two ?_)
  | (with_reducible refine r_un ?_)
  | (with_reducible refine r_if ?_)
  | (with_reducible refine r_b ?_)
  | (with_reducible refine r_and ?_)
  | (with_reducible refine r_or ?_)
  | (with_reducible refine r_not ?_)
  | (with_reducible refine r_andV ?_)
  | (with_reducible refine r_orV ?_)
  | (with_reducible refine r_notV ?_)
  | (with_reducible refine r_chain ?_)
  | (with_reducible refine r_chain3 ?_)
  | (with_reducible refine r_drop ?_)
  | (with_reducible refine r_retN ?_)
  | (with_reducible refine r_brk ?_)
  | (with_reducible refine r_cont ?_)
  | (with_reducible refine r_iteT ?_)
  | (with_reducible refine r_iteNT ?_)
  | (with_reducible refine r_iteNF ?_)
  | (with_reducible refine r_iteF ?_)
  | (with_reducible refine r_sl ?_)
  | (with_reducible refine r_noPart ?_)
  | (with_reducible refine r_part ?_)
  | (with_reducible refine r_abs ?_)
  | (with_reducible refine r_max2 ?_)
  | (with_reducible refine r_min2 ?_)
  | ((with_reducible refine q_len (k := ?xk) (xs := ?xs) ?x1 ?_); (case x1 => walk_at "hq"))
  | ((with_reducible refine r_lenUL (xs := ?xs) ?x1 ?_); (case x1 => walk_at "hl"))
  | ((with_reducible refine r_lenUT (xs := ?xs) ?x1 ?_); (case x1 => walk_at "ht"))
  | ((with_reducible refine r_mulUI ?x1 ?_); (case x1 => first | exact .inl ⟨by decide, by decide⟩ | exact .inr ⟨by decide, by decide⟩ | exact .inl ⟨by omega, by omega⟩ | exact .inr ⟨by omega, by omega⟩))
  | (with_reducible refine r_rng1 ?_)
  | ((with_reducible refine r_I ?x1 ?_); (case x1 => first | decide | (show _ ∧ _; exact ⟨by omega, by omega⟩) | (show _ ≠ _; omega) | (show _ ∧ _ ∧ _; exact ⟨by decide, by decide, by omega⟩))))
local macro_rules | `(tactic| walk_at "rd1") => `(tactic| first | (with_reducible refine r_seq ?_) | walk_at "rd0")
local macro_rules | `(tactic| walk_at "rx") => `(tactic| repeat walk_at "rd0")
local macro_rules | `(tactic| walk_at "rd") => `(tactic| repeat walk_at "rd1")
set_option hygiene false in
local macro_rules | `(tactic| walk_at "new") => `(tactic| (refine And.intro (by walk_at "sz") ?_; intro p np; generalize hg : upd _ p _ = Hn; have hs := same_of hg np; have hv := at_of hg; clear hg))
set_option hygiene false in
local macro_rules | `(tactic| walk_at "newp") => `(tactic| (intro p np; generalize hg : upd _ p _ = Hn; have hs := same_of hg np; have hv := at_of hg; clear hg))

def topS (i : Nat) : Stmt := PySem.Challenge.pw_piecetexts_k02_known_codes.main.body.getD i (.Pass ⟨0, 0, 0, 0⟩)
abbrev s_is_integer : Stmt := topS 10
theorem sc_is_integer : FnScope ["value"] ["value"] (defScope s_is_integer) := ⟨rfl, rfl, rfl, by decide +kernel, rfl, by decide +kernel, by decide +kernel⟩
abbrev s_is_within : Stmt := topS 11
theorem sc_is_within : FnScope ["value", "low", "high"] ["value", "low", "high"] (defScope s_is_within) := ⟨rfl, rfl, rfl, by decide +kernel, rfl, by decide +kernel, by decide +kernel⟩
abbrev s_is_byte : Stmt := topS 12
theorem sc_is_byte : FnScope ["value"] ["value"] (defScope s_is_byte) := ⟨rfl, rfl, rfl, by decide +kernel, rfl, by decide +kernel, by decide +kernel⟩
abbrev s_is_sign : Stmt := topS 13
theorem sc_is_sign : FnScope ["value"] ["value"] (defScope s_is_sign) := ⟨rfl, rfl, rfl, by decide +kernel, rfl, by decide +kernel, by decide +kernel⟩
abbrev s_are_signs : Stmt := topS 14
theorem sc_are_signs : FnScope ["value", "character"] ["value"] (defScope s_are_signs) := ⟨rfl, rfl, rfl, by decide +kernel, rfl, by decide +kernel, by decide +kernel⟩
abbrev s_data_of : Stmt := topS 15
theorem sc_data_of : FnScope ["value", "index", "byte"] ["value"] (defScope s_data_of) := ⟨rfl, rfl, rfl, by decide +kernel, rfl, by decide +kernel, by decide +kernel⟩
abbrev s_Code_signs : Stmt := inClass (topS 24) 9
theorem sc_Code_signs : FnScope ["self"] ["self"] (defScope s_Code_signs) := ⟨rfl, rfl, rfl, by decide +kernel, rfl, by decide +kernel, by decide +kernel⟩
abbrev s_Code_pad : Stmt := inClass (topS 24) 10
theorem sc_Code_pad : FnScope ["self"] ["self"] (defScope s_Code_pad) := ⟨rfl, rfl, rfl, by decide +kernel, rfl, by decide +kernel, by decide +kernel⟩
abbrev s_Code_width : Stmt := inClass (topS 24) 11
theorem sc_Code_width : FnScope ["self"] ["self"] (defScope s_Code_width) := ⟨rfl, rfl, rfl, by decide +kernel, rfl, by decide +kernel, by decide +kernel⟩
abbrev s_Code_bits : Stmt := inClass (topS 24) 12
theorem sc_Code_bits : FnScope ["self"] ["self"] (defScope s_Code_bits) := ⟨rfl, rfl, rfl, by decide +kernel, rfl, by decide +kernel, by decide +kernel⟩
abbrev s_Code_group : Stmt := inClass (topS 24) 13
theorem sc_Code_group : FnScope ["self"] ["self"] (defScope s_Code_group) := ⟨rfl, rfl, rfl, by decide +kernel, rfl, by decide +kernel, by decide +kernel⟩
abbrev s_Code_begin : Stmt := inClass (topS 24) 15
theorem sc_Code_begin : FnScope ["self"] ["self"] (defScope s_Code_begin) := ⟨rfl, rfl, rfl, by decide +kernel, rfl, by decide +kernel, by decide +kernel⟩
abbrev s_Code_is_full : Stmt := inClass (topS 24) 16
theorem sc_Code_is_full : FnScope ["self", "column"] ["self", "column"] (defScope s_Code_is_full) := ⟨rfl, rfl, rfl, by decide +kernel, rfl, by decide +kernel, by decide +kernel⟩
abbrev s_Code_next_column : Stmt := inClass (topS 24) 17
theorem sc_Code_next_column : FnScope ["self", "column"] ["self", "column"] (defScope s_Code_next_column) := ⟨rfl, rfl, rfl, by decide +kernel, rfl, by decide +kernel, by decide +kernel⟩
abbrev s_Code_placed : Stmt := inClass (topS 24) 18
theorem sc_Code_placed : FnScope ["self", "column", "sign"] ["self", "column", "sign"] (defScope s_Code_placed) := ⟨rfl, rfl, rfl, by decide +kernel, rfl, by decide +kernel, by decide +kernel⟩
abbrev s_Code_write : Stmt := inClass (topS 24) 19
theorem sc_Code_write : FnScope ["self", "state", "byte", "bits", "signs", "column", "part", "more"] ["self", "state", "byte"] (defScope s_Code_write) := ⟨rfl, rfl, rfl, by decide +kernel, rfl, by decide +kernel, by decide +kernel⟩
abbrev s_Code_close : Stmt := inClass (topS 24) 20
theorem sc_Code_close : FnScope ["self", "state", "bits", "signs", "column", "last", "rest", "missing", "turn", "more"] ["self", "state"] (defScope s_Code_close) := ⟨rfl, rfl, rfl, by decide +kernel, rfl, by decide +kernel, by decide +kernel⟩
abbrev s_Machine_whole : Stmt := inClass (topS 18) 2
theorem sc_Machine_whole : FnScope ["self", "data", "parts", "state", "byte", "part"] ["self", "data"] (defScope s_Machine_whole) := ⟨rfl, rfl, rfl, by decide +kernel, rfl, by decide +kernel, by decide +kernel⟩
abbrev s_plain_text : Stmt := topS 26
theorem sc_plain_text : FnScope ["code", "data"] ["code", "data"] (defScope s_plain_text) := ⟨rfl, rfl, rfl, by decide +kernel, rfl, by decide +kernel, by decide +kernel⟩
abbrev s_text_of : Stmt := topS 27
theorem sc_text_of : FnScope ["code", "data"] ["code", "data"] (defScope s_text_of) := ⟨rfl, rfl, rfl, by decide +kernel, rfl, by decide +kernel, by decide +kernel⟩
abbrev s_Code___init__ : Stmt := inClass (topS 24) 1
theorem sc_Code___init__ : FnScope ["self", "signs", "pad", "width", "digit", "sign"] ["self", "signs", "pad", "width"] (defScope s_Code___init__) := ⟨rfl, rfl, rfl, by decide +kernel, rfl, by decide +kernel, by decide +kernel⟩
abbrev s_Code___eq__ : Stmt := inClass (topS 24) 7
theorem sc_Code___eq__ : FnScope ["self", "other"] ["self", "other"] (defScope s_Code___eq__) := ⟨rfl, rfl, rfl, by decide +kernel, rfl, by decide +kernel, by decide +kernel⟩
abbrev s_Code_base16 : Stmt := inClass (topS 24) 2
theorem sc_Code_base16 : FnScope ["cls", "width"] ["cls", "width"] (defScope s_Code_base16) := ⟨rfl, rfl, rfl, by decide +kernel, rfl, by decide +kernel, by decide +kernel⟩
abbrev s_Code_base32 : Stmt := inClass (topS 24) 3
theorem sc_Code_base32 : FnScope ["cls", "width"] ["cls", "width"] (defScope s_Code_base32) := ⟨rfl, rfl, rfl, by decide +kernel, rfl, by decide +kernel, by decide +kernel⟩
abbrev s_Code_base64 : Stmt := inClass (topS 24) 4
theorem sc_Code_base64 : FnScope ["cls", "width", "signs"] ["cls", "width"] (defScope s_Code_base64) := ⟨rfl, rfl, rfl, by decide +kernel, rfl, by decide +kernel, by decide +kernel⟩
abbrev s_l_bag : Stmt := topS 29
theorem sc_l_bag : FnScope ["_law_script", "_law_at", "_law_cell", "_law_digits"] ["_law_script", "_law_at"] (defScope s_l_bag) := ⟨rfl, rfl, rfl, by decide +kernel, rfl, by decide +kernel, by decide +kernel⟩
abbrev s_l_take : Stmt := topS 30
theorem sc_l_take : FnScope ["_law_bag_here", "_law_many", "_law_digit", "_law_mixed"] ["_law_bag_here", "_law_many"] (defScope s_l_take) := ⟨rfl, rfl, rfl, by decide +kernel, rfl, by decide +kernel, by decide +kernel⟩
abbrev s_l_of : Stmt := topS 31
theorem sc_l_of : FnScope ["_law_bag_here", "_law_some"] ["_law_bag_here", "_law_some"] (defScope s_l_of) := ⟨rfl, rfl, rfl, by decide +kernel, rfl, by decide +kernel, by decide +kernel⟩
abbrev s_l_named : Stmt := topS 32
theorem sc_l_named : FnScope ["_law_name", "_law_room", "e"] ["_law_name", "_law_room"] (defScope s_l_named) := ⟨rfl, rfl, rfl, by decide +kernel, rfl, by decide +kernel, by decide +kernel⟩
abbrev s_l_right : Stmt := topS 33
theorem sc_l_right : FnScope ["_law_bag_here", "_law_name", "_law_signs", "_law_last", "_law_room"] ["_law_bag_here", "_law_name", "_law_signs", "_law_last"] (defScope s_l_right) := ⟨rfl, rfl, rfl, by decide +kernel, rfl, by decide +kernel, by decide +kernel⟩
abbrev s_l_by_hand : Stmt := topS 34
theorem sc_l_by_hand : FnScope ["_law_big", "_law_small", "_law_found", "_law_due"] [] (defScope s_l_by_hand) := ⟨rfl, rfl, rfl, by decide +kernel, rfl, by decide +kernel, by decide +kernel⟩
abbrev s_law : Stmt := topS 35
theorem sc_law : FnScope ["_law_script", "_law_capitals", "_law_figures", "_law_at", "_law_bag_here", "_law_turn", "_law_known", "_law_code"] ["_law_script"] (defScope s_law) := ⟨rfl, rfl, rfl, by decide +kernel, rfl, by decide +kernel, by decide +kernel⟩
def P : Program := PySem.Challenge.pw_piecetexts_k02_known_codes
theorem P_eq : P = PySem.Challenge.rw_piecetexts_k02_known_codes.prog := by kernel_rfl
theorem P_file : ((P.main.file : Str) == ("/claim/cut.py" : Str)) = true := by decide +kernel
theorem P_top : (P.main.scope.names.lookup ("super" : Str)).isSome = false := by decide +kernel
abbrev se_BadOption : Stmt := inClass (topS 3) 0
def eD_BadOption : ErrD := ⟨"BadOption", "name", "BadOption.__init__", defArgs se_BadOption, defBody se_BadOption, defScope se_BadOption, "/claim/cut.py"⟩
structure Txt (K : PySem.W.Frag) (mg : Str → Option Value) : Type where
  C_Code : Addr
  C_Code_g : mg "Code" = some (.ref C_Code)
  C_Code_c : Cls K C_Code
  C_Code_ne : NeC K C_Code
  C_Code_is : InsC K C_Code
  X_BadOption : Addr
  X_BadOption_f : Addr
  X_BadOption_F : ErrF K eD_BadOption X_BadOption X_BadOption_f
  X_BadOption_g : mg "BadOption" = some (.ref X_BadOption)
  is_integer_a : Addr
  is_integer_d : FuncData
  is_integer_f : FunD K "is_integer" "is_integer" (defArgs s_is_integer) (defBody s_is_integer) (defScope s_is_integer) [] [] is_integer_a is_integer_d
  is_integer_g : mg "is_integer" = some (.ref is_integer_a)
  is_integer_b : Binds K is_integer_d ["value"] []
  is_within_a : Addr
  is_within_d : FuncData
  is_within_f : FunD K "is_within" "is_within" (defArgs s_is_within) (defBody s_is_within) (defScope s_is_within) [] [] is_within_a is_within_d
  is_within_g : mg "is_within" = some (.ref is_within_a)
  is_within_b : Binds K is_within_d ["value", "low", "high"] []
  is_byte_a : Addr
  is_byte_d : FuncData
  is_byte_f : FunD K "is_byte" "is_byte" (defArgs s_is_byte) (defBody s_is_byte) (defScope s_is_byte) [] [] is_byte_a is_byte_d
  is_byte_g : mg "is_byte" = some (.ref is_byte_a)
  is_byte_b : Binds K is_byte_d ["value"] []
  is_sign_a : Addr
  is_sign_d : FuncData
  is_sign_f : FunD K "is_sign" "is_sign" (defArgs s_is_sign) (defBody s_is_sign) (defScope s_is_sign) [] [] is_sign_a is_sign_d
  is_sign_g : mg "is_sign" = some (.ref is_sign_a)
  is_sign_b : Binds K is_sign_d ["value"] []
  are_signs_a : Addr
  are_signs_d : FuncData
  are_signs_f : FunD K "are_signs" "are_signs" (defArgs s_are_signs) (defBody s_are_signs) (defScope s_are_signs) [] [] are_signs_a are_signs_d
  are_signs_g : mg "are_signs" = some (.ref are_signs_a)
  are_signs_b : Binds K are_signs_d ["value"] []
  data_of_a : Addr
  data_of_d : FuncData
  data_of_f : FunD K "data_of" "data_of" (defArgs s_data_of) (defBody s_data_of) (defScope s_data_of) [] [] data_of_a data_of_d
  data_of_g : mg "data_of" = some (.ref data_of_a)
  data_of_b : Binds K data_of_d ["value"] []
  Code_signs_a : Addr
  Code_signs_d : FuncData
  Code_signs_f : FunD K "signs" "Code.signs" (defArgs s_Code_signs) (defBody s_Code_signs) (defScope s_Code_signs) [] [] Code_signs_a Code_signs_d
  Code_signs_q : Addr
  Code_signs_p : PropOf K C_Code "signs" Code_signs_q Code_signs_a
  Code_signs_b : Binds K Code_signs_d ["self"] []
  Code_pad_a : Addr
  Code_pad_d : FuncData
  Code_pad_f : FunD K "pad" "Code.pad" (defArgs s_Code_pad) (defBody s_Code_pad) (defScope s_Code_pad) [] [] Code_pad_a Code_pad_d
  Code_pad_q : Addr
  Code_pad_p : PropOf K C_Code "pad" Code_pad_q Code_pad_a
  Code_pad_b : Binds K Code_pad_d ["self"] []
  Code_width_a : Addr
  Code_width_d : FuncData
  Code_width_f : FunD K "width" "Code.width" (defArgs s_Code_width) (defBody s_Code_width) (defScope s_Code_width) [] [] Code_width_a Code_width_d
  Code_width_q : Addr
  Code_width_p : PropOf K C_Code "width" Code_width_q Code_width_a
  Code_width_b : Binds K Code_width_d ["self"] []
  Code_bits_a : Addr
  Code_bits_d : FuncData
  Code_bits_f : FunD K "bits" "Code.bits" (defArgs s_Code_bits) (defBody s_Code_bits) (defScope s_Code_bits) [] [] Code_bits_a Code_bits_d
  Code_bits_q : Addr
  Code_bits_p : PropOf K C_Code "bits" Code_bits_q Code_bits_a
  Code_bits_b : Binds K Code_bits_d ["self"] []
  Code_group_a : Addr
  Code_group_d : FuncData
  Code_group_f : FunD K "group" "Code.group" (defArgs s_Code_group) (defBody s_Code_group) (defScope s_Code_group) [] [] Code_group_a Code_group_d
  Code_group_q : Addr
  Code_group_p : PropOf K C_Code "group" Code_group_q Code_group_a
  Code_group_b : Binds K Code_group_d ["self"] []
  Code_begin_a : Addr
  Code_begin_d : FuncData
  Code_begin_f : FunD K "begin" "Code.begin" (defArgs s_Code_begin) (defBody s_Code_begin) (defScope s_Code_begin) [] [] Code_begin_a Code_begin_d
  Code_begin_m : Meth K C_Code "begin" Code_begin_a
  Code_begin_b : Binds K Code_begin_d ["self"] []
  Code_is_full_a : Addr
  Code_is_full_d : FuncData
  Code_is_full_f : FunD K "is_full" "Code.is_full" (defArgs s_Code_is_full) (defBody s_Code_is_full) (defScope s_Code_is_full) [] [] Code_is_full_a Code_is_full_d
  Code_is_full_m : Meth K C_Code "is_full" Code_is_full_a
  Code_is_full_b : Binds K Code_is_full_d ["self", "column"] []
  Code_next_column_a : Addr
  Code_next_column_d : FuncData
  Code_next_column_f : FunD K "next_column" "Code.next_column" (defArgs s_Code_next_column) (defBody s_Code_next_column) (defScope s_Code_next_column) [] [] Code_next_column_a Code_next_column_d
  Code_next_column_m : Meth K C_Code "next_column" Code_next_column_a
  Code_next_column_b : Binds K Code_next_column_d ["self", "column"] []
  Code_placed_a : Addr
  Code_placed_d : FuncData
  Code_placed_f : FunD K "placed" "Code.placed" (defArgs s_Code_placed) (defBody s_Code_placed) (defScope s_Code_placed) [] [] Code_placed_a Code_placed_d
  Code_placed_m : Meth K C_Code "placed" Code_placed_a
  Code_placed_b : Binds K Code_placed_d ["self", "column", "sign"] []
  Code_write_a : Addr
  Code_write_d : FuncData
  Code_write_f : FunD K "write" "Code.write" (defArgs s_Code_write) (defBody s_Code_write) (defScope s_Code_write) [] [] Code_write_a Code_write_d
  Code_write_m : Meth K C_Code "write" Code_write_a
  Code_write_b : Binds K Code_write_d ["self", "state", "byte"] []
  Code_close_a : Addr
  Code_close_d : FuncData
  Code_close_f : FunD K "close" "Code.close" (defArgs s_Code_close) (defBody s_Code_close) (defScope s_Code_close) [] [] Code_close_a Code_close_d
  Code_close_m : Meth K C_Code "close" Code_close_a
  Code_close_b : Binds K Code_close_d ["self", "state"] []
  Machine_whole_a : Addr
  Machine_whole_d : FuncData
  Machine_whole_f : FunD K "whole" "Machine.whole" (defArgs s_Machine_whole) (defBody s_Machine_whole) (defScope s_Machine_whole) [] [] Machine_whole_a Machine_whole_d
  Machine_whole_m : Meth K C_Code "whole" Machine_whole_a
  Machine_whole_b : Binds K Machine_whole_d ["self", "data"] []
  plain_text_a : Addr
  plain_text_d : FuncData
  plain_text_f : FunD K "plain_text" "plain_text" (defArgs s_plain_text) (defBody s_plain_text) (defScope s_plain_text) [] [] plain_text_a plain_text_d
  plain_text_g : mg "plain_text" = some (.ref plain_text_a)
  plain_text_b : Binds K plain_text_d ["code", "data"] []
  text_of_a : Addr
  text_of_d : FuncData
  text_of_f : FunD K "text_of" "text_of" (defArgs s_text_of) (defBody s_text_of) (defScope s_text_of) [] [] text_of_a text_of_d
  text_of_g : mg "text_of" = some (.ref text_of_a)
  text_of_b : Binds K text_of_d ["code", "data"] []
  Code___init___a : Addr
  Code___init___d : FuncData
  Code___init___f : FunD K "__init__" "Code.__init__" (defArgs s_Code___init__) (defBody s_Code___init__) (defScope s_Code___init__) [] [("pad", .str (Str.ofString "")), ("width", .int 0)] Code___init___a Code___init___d
  C_Code_m : Mk K C_Code Code___init___a
  Code___eq___a : Addr
  Code___eq___d : FuncData
  Code___eq___f : FunD K "__eq__" "Code.__eq__" (defArgs s_Code___eq__) (defBody s_Code___eq__) (defScope s_Code___eq__) [] [] Code___eq___a Code___eq___d
  Code___eq___m : Meth K C_Code "__eq__" Code___eq___a
  Code___eq___b : Binds K Code___eq___d ["self", "other"] []
  Code_base16_a : Addr
  Code_base16_d : FuncData
  Code_base16_f : FunD K "base16" "Code.base16" (defArgs s_Code_base16) (defBody s_Code_base16) (defScope s_Code_base16) [] [("width", .int 0)] Code_base16_a Code_base16_d
  Code_base16_p : Addr
  Code_base16_c : ClX.CMet K C_Code (.type "type") "base16" Code_base16_p Code_base16_a
  Code_base32_a : Addr
  Code_base32_d : FuncData
  Code_base32_f : FunD K "base32" "Code.base32" (defArgs s_Code_base32) (defBody s_Code_base32) (defScope s_Code_base32) [] [("width", .int 0)] Code_base32_a Code_base32_d
  Code_base32_p : Addr
  Code_base32_c : ClX.CMet K C_Code (.type "type") "base32" Code_base32_p Code_base32_a
  Code_base64_a : Addr
  Code_base64_d : FuncData
  Code_base64_f : FunD K "base64" "Code.base64" (defArgs s_Code_base64) (defBody s_Code_base64) (defScope s_Code_base64) [] [("width", .int 0)] Code_base64_a Code_base64_d
  Code_base64_p : Addr
  Code_base64_c : ClX.CMet K C_Code (.type "type") "base64" Code_base64_p Code_base64_a
  l_bag_a : Addr
  l_bag_d : FuncData
  l_bag_f : FunD K "_law_bag" "_law_bag" (defArgs s_l_bag) (defBody s_l_bag) (defScope s_l_bag) [] [] l_bag_a l_bag_d
  l_bag_g : mg "_law_bag" = some (.ref l_bag_a)
  l_bag_b : Binds K l_bag_d ["_law_script", "_law_at"] []
  l_take_a : Addr
  l_take_d : FuncData
  l_take_f : FunD K "_law_take" "_law_take" (defArgs s_l_take) (defBody s_l_take) (defScope s_l_take) [] [] l_take_a l_take_d
  l_take_g : mg "_law_take" = some (.ref l_take_a)
  l_take_b : Binds K l_take_d ["_law_bag_here", "_law_many"] []
  l_of_a : Addr
  l_of_d : FuncData
  l_of_f : FunD K "_law_of" "_law_of" (defArgs s_l_of) (defBody s_l_of) (defScope s_l_of) [] [] l_of_a l_of_d
  l_of_g : mg "_law_of" = some (.ref l_of_a)
  l_of_b : Binds K l_of_d ["_law_bag_here", "_law_some"] []
  l_named_a : Addr
  l_named_d : FuncData
  l_named_f : FunD K "_law_named" "_law_named" (defArgs s_l_named) (defBody s_l_named) (defScope s_l_named) [] [] l_named_a l_named_d
  l_named_g : mg "_law_named" = some (.ref l_named_a)
  l_named_b : Binds K l_named_d ["_law_name", "_law_room"] []
  l_right_a : Addr
  l_right_d : FuncData
  l_right_f : FunD K "_law_right" "_law_right" (defArgs s_l_right) (defBody s_l_right) (defScope s_l_right) [] [] l_right_a l_right_d
  l_right_g : mg "_law_right" = some (.ref l_right_a)
  l_right_b : Binds K l_right_d ["_law_bag_here", "_law_name", "_law_signs", "_law_last"] []
  l_by_hand_a : Addr
  l_by_hand_d : FuncData
  l_by_hand_f : FunD K "_law_by_hand" "_law_by_hand" (defArgs s_l_by_hand) (defBody s_l_by_hand) (defScope s_l_by_hand) [] [] l_by_hand_a l_by_hand_d
  l_by_hand_g : mg "_law_by_hand" = some (.ref l_by_hand_a)
  l_by_hand_b : Binds K l_by_hand_d [] []
  law_a : Addr
  law_d : FuncData
  law_f : FunD K "law" "law" (defArgs s_law) (defBody s_law) (defScope s_law) [] [] law_a law_d
  law_g : mg "law" = some (.ref law_a)
  law_b : Binds K law_d ["_law_script"] []
  Code___init___k1_width : ∃ g, KBn K Code___init___d ["self", "signs", "pad", "width"] 2 ["width"] g (fun vs zs => vs ++ ([.str (Str.ofString "")] ++ zs))
  Code___init___k1_pad_width : ∃ g, KBn K Code___init___d ["self", "signs", "pad", "width"] 2 ["pad", "width"] g (fun vs zs => vs ++ zs)
  Code_base32_k0_width : ∃ g, KBn K Code_base32_d ["cls", "width"] 1 ["width"] g (fun vs zs => vs ++ zs)
  Code_base64_k0_width : ∃ g, KBn K Code_base64_d ["cls", "width"] 1 ["width"] g (fun vs zs => vs ++ zs)
  Code_base16_k0_width : ∃ g, KBn K Code_base16_d ["cls", "width"] 1 ["width"] g (fun vs zs => vs ++ zs)
  Code_base32_k0_ : ∃ g, KBn K Code_base32_d ["cls", "width"] 1 [] g (fun vs zs => vs ++ (zs ++ [.int 0]))
  Code_base64_k0_ : ∃ g, KBn K Code_base64_d ["cls", "width"] 1 [] g (fun vs zs => vs ++ (zs ++ [.int 0]))
  Code_base16_k0_ : ∃ g, KBn K Code_base16_d ["cls", "width"] 1 [] g (fun vs zs => vs ++ (zs ++ [.int 0]))
  C_Code_n_parts : NoAttr K C_Code "parts"
  C_Code_n_sign_bits : NoAttr K C_Code "sign_bits"
  C_Code_n_digits : NoAttr K C_Code "digits"
  C_Code_r : ClX.CRead K C_Code (.type "type")
  C_Code_v_WIDEST : ∃ u, ClX.CVal K C_Code (.type "type") "WIDEST" (.int 76) u
  k_PRINTED_u : Value
  k_PRINTED_g : mg "PRINTED" = some k_PRINTED_u
  k_PRINTED_r : RelV (.str (Str.ofString " !\"#$&'()*+,-./0123456789:;<=>?@ABCDEFGHIJKLMNOPQRSTUVWXYZ[\\]^_`abcdefghijklmnopqrstuvwxyz{|}~")) k_PRINTED_u
  k_MOST_BYTES_u : Value
  k_MOST_BYTES_g : mg "MOST_BYTES" = some k_MOST_BYTES_u
  k_MOST_BYTES_r : RelV (.int 600) k_MOST_BYTES_u
  k_GROUPS_a : Addr
  k_GROUPS_g : mg "GROUPS" = some (.ref k_GROUPS_a)
  k_GROUPS_t : ∀ H, SqT K H k_GROUPS_a [.int 0, .int 8, .int 4, .int 8, .int 2, .int 8, .int 4]
  k_NEWLINE_u : Value
  k_NEWLINE_g : mg "NEWLINE" = some k_NEWLINE_u
  k_NEWLINE_r : RelV (.str (Str.ofString "\n")) k_NEWLINE_u
  k_BITS_a : Addr
  k_BITS_g : mg "BITS" = some (.ref k_BITS_a)
  k_BITS_d : IDict K k_BITS_a [(2, 1), (4, 2), (8, 3), (16, 4), (32, 5), (64, 6)]
  n_abs : mg "abs" = none
  n_all : mg "all" = none
  n_bool : mg "bool" = none
  n_enumerate : mg "enumerate" = none
  n_int : mg "int" = none
  n_isinstance : mg "isinstance" = none
  n_len : mg "len" = none
  n_list : mg "list" = none
  n_max : mg "max" = none
  n_min : mg "min" = none
  n_range : mg "range" = none
  n_str : mg "str" = none
  n_super : mg "super" = none
  n_tuple : mg "tuple" = none
theorem xi_BadOption {K : PySem.W.Frag} {mg : Str → Option Value} (T : Txt K mg) (w : World) : PySem.PxE.InitOk P w K mg T.X_BadOption T.X_BadOption_f "name" := by
  intro A R hp g d t os e t0 v mb X hg hb hmb lim hroom hKe he hq
  have F := T.X_BadOption_F
  obtain ⟨oc, od, doc, pm, an, cda, ct, cc, osl, ccl, cdd, ccs, vs, tf, cl, cld, csl, lk, hcd, hcode, hvs, hcell⟩ := F.fn
  obtain ⟨nm, q, N, bs, bm, sn, sub, ab, col, dd, k0, k1, k2, k3, k5, hC, hbm⟩ := F.oex.cls
  have lk' : K.lookup T.X_BadOption_f = some ⟨oc, od, .func (PySem.W.ksFn "__init__" "BadOption.__init__" (defArgs se_BadOption) [PySem.PxE.s1 "wrong argument" ⟨13, 8, 13, 13⟩ ⟨13, 8, 13, 15⟩ ⟨13, 8, 13, 24⟩ ⟨13, 25, 13, 41⟩ ⟨13, 8, 13, 42⟩ ⟨13, 8, 13, 42⟩ 0, PySem.PxE.s2 "name" "name" ⟨14, 8, 14, 12⟩ ⟨14, 8, 14, 17⟩ ⟨14, 20, 14, 24⟩ ⟨14, 8, 14, 24⟩] (defScope se_BadOption) .none .none doc pm an (.ref cda) ct cc), osl⟩ := lk
  have hcd' : PySem.W.codeIn K (.ref cda) "BadOption.__init__" = true := hcd
  exact PySem.PxE.init_super X hg hb hmb T.n_super lim hroom lk' hcd' (ar := { arg := "self", annotation := none, pos := ⟨12, 17, 12, 21⟩ }) (by rfl) (by rfl) hcode hvs P_file P_top hcell
    (by decide +kernel) (by rfl) (by rfl) (by rfl) (by rfl) (by rfl) (by rfl) (by rfl) (by decide) (by decide) hC hbm F.oex.sa F.noF F.hop F.hsup F.hB F.hself he hKe
    (BindsTo.of_eq (by rfl)) _ _ rfl (fun L => by rfl) (fun L => by rfl) (fun L => by rfl) (fun L => by rfl) (fun L => by rfl) hq

section
variable {w : World} {K : PySem.W.Frag} {mg : Str → Option Value} {base : Heap}
/-! ### the draws -/
structure Bag (n : Nat) (d m c : Int) : Prop where
  d0 : 0 ≤ d
  m0 : 0 ≤ m
  m1 : m < 2305843009213693951
  c0 : 0 ≤ c
  c1 : c + n ≤ 1000000
def BagAt (H : Hp) (b : Addr) (n : Nat) : Prop := ∃ d m c, Bag n d m c ∧ H b = some (.lst [.int d, .int m, .int c])
theorem BagAt.mono {H : Hp} {b : Addr} {n m : Nat} (h : BagAt H b n) (l : m ≤ n) : BagAt H b m := by
  obtain ⟨d, x, c, ⟨h1, h2, h3, h4, h5⟩, e⟩ := h
  exact ⟨d, x, c, ⟨h1, h2, h3, h4, by omega⟩, e⟩
theorem BagAt.same {H H' : Hp} {b : Addr} {n : Nat} (h : BagAt H b n) (e : Same H H') : BagAt H' b n := by
  obtain ⟨d, x, c, B, q⟩ := h
  exact ⟨d, x, c, B, e _ _ q⟩
theorem BagAt.some {H : Hp} {b : Addr} {n : Nat} (h : BagAt H b n) : ∃ o, H b = some o := let ⟨_, _, _, _, e⟩ := h; ⟨_, e⟩
theorem BagAt.ne {H : Hp} {b p : Addr} {n : Nat} (h : BagAt H b n) (e : H p = none) : p ≠ b := fun z => by
  obtain ⟨o, q⟩ := h.some
  rw [z, q] at e
  cases e
theorem BagAt.upd {H : Hp} {b p : Addr} {m : Nat} {o : HO} (h : BagAt H b m) (n : p ≠ b) : BagAt (upd H p o) b m := by
  obtain ⟨d, x, c, B, q⟩ := h
  exact ⟨d, x, c, B, gu (Ne.symm n) q⟩
theorem sameB_mut {b : Addr} {H H' : Hp} {p : Addr} {o : HO} (e : SameB b H H') (h : H p = none) : SameB b H (upd H' p o) := fun a u n ha => (upd_ne (ne_of_none ha h)).trans (e a u n ha)
def sp_l_take (T : Txt K mg) : Sp := fun vs H Q _ => ∃ (b : Addr) (k : Int) (n : Nat), vs = [.ref b, .int k] ∧ BagAt H b (n + 1) ∧ 0 < k ∧ k < 1000000 ∧
  ∀ r H', 0 ≤ r → r < k → BagAt H' b n → SameB b H H' → Q (.int r) H'
theorem len_l_take (T : Txt K mg) (vs : List V) (H : Hp) (Q : VK) (E : XK) (h : sp_l_take T vs H Q E) : vs.length = 2 := by
  obtain ⟨b, k, n, rfl, _⟩ := h
  rfl
def t_l_take (T : Txt K mg) : TS := (tSeq (tIfS (tTest (tOp rGtI (tOp (rIx K) (tVar 0) (tC (.int 0))) (tC (.int 0)))) (tSeq (tAsg (tOp rModI (tOp (rIx K) (tVar 0) (tC (.int 0))) (tVar 1)) (gName 2))
    (tSeq (tAsg (tOp rFdivI (tOp (rIx K) (tVar 0) (tC (.int 0))) (tVar 1)) (gSub (tVar 0) (tC (.int 0)) rSetL))
    (tRet (tVar 2)))) tNext)
    (tSeq (tAsg (tOp (rAddU K) (tOp (rIx K) (tVar 0) (tC (.int 2))) (tC (.int 1))) (gSub (tVar 0) (tC (.int 2)) rSetL))
    (tSeq (tAsg (tOp rModI (tOp rPowI (tOp (rAddU K) (tOp (rIx K) (tVar 0) (tC (.int 1))) (tOp (rMulU K) (tC (.int 1000033)) (tOp (rIx K) (tVar 0) (tC (.int 2))))) (tC (.int 3))) (tC (.int 2305843009213693921))) (gName 3))
    (tSeq (tAsg (tOp rModI (tOp rPowI (tOp (rAddU K) (tVar 3) (tOp (rMulU K) (tC (.int 32452867)) (tOp (rIx K) (tVar 0) (tC (.int 2))))) (tC (.int 2))) (tC (.int 2305843009213693951))) (gName 3))
    (tRet (tOp rModI (tOp rFdivI (tVar 3) (tC (.int 1024))) (tVar 1)))))))

theorem pure_l_take (T : Txt K mg) (vs : List V) (H : Hp) (Q : VK) (E : XK) (h : sp_l_take T vs H Q E) : t_l_take T { nx := fun _ H' => Q .non H', rt := Q } (start ["_law_bag_here", "_law_many", "_law_digit", "_law_mixed"] vs) H := by
  obtain ⟨b, k, n, rfl, ⟨d, m, c, ⟨d0, m0, m1, c0, c1⟩, hB⟩, hk, hk2, q⟩ := h
  unfold t_l_take
  have hM : ∀ x : Int, 0 ≤ x.fmod 2305843009213693921 ∧ x.fmod 2305843009213693921 < 2305843009213693921 := fun x => ⟨Int.fmod_nonneg_of_pos x (by decide), Int.fmod_lt_of_pos x (by decide)⟩
  walk_at "rd"
  refine r_iteD (fun hd => ?_) (fun hd => ?_)
  · walk_at "rd"
    refine q _ _ (Int.fmod_nonneg_of_pos _ hk) (Int.fmod_lt_of_pos _ hk) ⟨_, _, _, ⟨?_, m0, m1, c0, by omega⟩, upd_same⟩ sameB_upd
    rw [Int.fdiv_eq_ediv_of_nonneg _ (Int.le_of_lt hk)]
    exact Int.ediv_nonneg d0 (Int.le_of_lt hk)
  · walk_at "rd"
    generalize hx : ((m + 1000033 * (c + 1)) ^ (Int.toNat 3)).fmod 2305843009213693921 = x1
    have hx1 := hM ((m + 1000033 * (c + 1)) ^ (Int.toNat 3))
    rw [hx] at hx1
    walk_at "rd"
    exact q _ _ (Int.fmod_nonneg_of_pos _ hk) (Int.fmod_lt_of_pos _ hk) ⟨_, _, _, ⟨d0, m0, m1, by omega, by omega⟩, upd_same⟩ sameB_upd
theorem ok_l_take (T : Txt K mg) : FnOk P w K mg base CX0 1 T.l_take_a T.l_take_d ["_law_bag_here", "_law_many"] (sp_l_take T) := by
  refine T.l_take_f.ok sc_l_take (fun vs H Q E h => len_l_take T vs H Q E h) (fun cdv A outer s H vs Q E hr h => ⟨t_l_take T, PSs.nox ?_, pure_l_take T vs H Q E h⟩)
  have hu := hu64 hr
  exact (pss_cons (ps_if (pt_cmpR op_gt (pe_ix ix_seq (pv 0) pe_int (fun _ _ => rfl)) pe_int (nomark _)) (pss_cons (ps_set (i := 2) sc_l_take.nd rfl (.inl rfl) (pe_op op_modN (pe_ix ix_seq (pv 0) pe_int (fun _ _ => rfl)) (pv 1)))
      (pss_cons (ps_asg (pe_op op_fdivN (pe_ix ix_seq (pv 0) pe_int (fun _ _ => rfl)) (pv 1)) (pg_sub (pv 0) pe_int set_list))
      (pss_one (ps_ret (pv 2))))) pss_nil)
      (pss_cons (ps_asg (pe_op op_addU (pe_ix ix_seq (pv 0) pe_int (fun _ _ => rfl)) pe_int) (pg_sub (pv 0) pe_int set_list))
      (pss_cons (ps_set (i := 3) sc_l_take.nd rfl (.inl rfl) (pe_op op_modN (pe_op op_pow (pe_op op_addU (pe_ix ix_seq (pv 0) pe_int (fun _ _ => rfl)) (pe_op op_mulU pe_int (pe_ix ix_seq (pv 0) pe_int (fun _ _ => rfl)))) pe_int) pe_int))
      (pss_cons (ps_set (i := 3) sc_l_take.nd rfl (.inl rfl) (pe_op op_modN (pe_op op_pow (pe_op op_addU (pv 3) (pe_op op_mulU pe_int (pe_ix ix_seq (pv 0) pe_int (fun _ _ => rfl)))) pe_int) pe_int))
      (pss_one (ps_ret (pe_op op_modN (pe_op op_fdivN (pv 3) pe_int) (pv 1))))))))


def sp_l_bag (T : Txt K mg) : Sp := fun vs H Q _ => ∃ (a : Addr) (ns : List Int) (i : Nat), vs = [.ref a, .int i] ∧ SqL K H a (ns.map V.int) ∧ ns.length ≤ 63 ∧ i ≤ 1000 ∧
  ∀ p H', Same H H' → H p = none → BagAt H' p 1000000 → Q (.ref p) H'
theorem len_l_bag (T : Txt K mg) (vs : List V) (H : Hp) (Q : VK) (E : XK) (h : sp_l_bag T vs H Q E) : vs.length = 2 := by
  obtain ⟨a, ns, i, rfl, _⟩ := h
  rfl
def t_l_bag (T : Txt K mg) : TS := (tSeq (tAsg (tIf (tTest (tOp rLtI (tVar 1) (tCB (rLenU K) (tCons (tVar 0) tNil)))) (tOp (rIx K) (tVar 0) (tVar 1)) (tC (.int 0))) (gName 2))
    (tSeq (tAsg (tIf (tTest (tOp rGeI (tCB rAbs (tCons (tVar 2) tNil)) (tOp rPowI (tC (.int 10)) (tC (.int 18))))) (tCB rAbs (tCons (tVar 2) tNil)) (tC (.int 0))) (gName 3))
    (tRet (tLst (tCons (tVar 3) (tCons (tOp rModI (tOp (rMulU K) (tOp (rAddU K) (tOp (rAddU K) (tOp rModI (tVar 2) (tC (.int 2305843009213693951))) (tOp (rMulU K) (tC (.int 5003)) (tVar 1))) (tC (.int 71))) (tC (.int 7368787))) (tC (.int 2305843009213693951))) (tCons (tC (.int 0)) tNil)))))))

theorem pure_l_bag (T : Txt K mg) (vs : List V) (H : Hp) (Q : VK) (E : XK) (h : sp_l_bag T vs H Q E) : t_l_bag T { nx := fun _ H' => Q .non H', rt := Q } (start ["_law_script", "_law_at", "_law_cell", "_law_digits"] vs) H := by
  obtain ⟨a, ns, i, rfl, hS, hl, hi, q⟩ := h
  unfold t_l_bag
  have fin : ∀ d x : Int, 0 ≤ d → [V.int d, V.int (x.fmod 2305843009213693951), V.int 0].length ≤ sizeLine ∧ ∀ p, H p = none → Q (.ref p) (upd H p (.lst [V.int d, V.int (x.fmod 2305843009213693951), V.int 0])) := by
    intro d x hd
    walk_at "new"
    exact q _ _ hs np ⟨_, _, _, ⟨hd, Int.fmod_nonneg_of_pos _ (by decide), Int.fmod_lt_of_pos _ (by decide), Int.le_refl _, by decide⟩, hv⟩
  walk_at "rd"
  refine r_iteD (fun h => ?_) (fun h => ?_)
  · have hi' : i < ns.length := by
      rw [List.length_map] at h
      omega
    have g : atI (ns.map V.int) (i : Int) = some (.int ns[i]) := atI_nat (by rw [List.getElem?_map, List.getElem?_eq_getElem hi']; rfl)
    walk_at "rd"
    refine r_iteD (fun h => ?_) (fun h => ?_)
    · walk_at "rd"
      exact fin _ _ (by split <;> omega)
    · walk_at "rd"
      exact fin _ _ (Int.le_refl _)
  · walk_at "rd"
    refine r_iteD (fun h => ?_) (fun h => ?_)
    · walk_at "rd"
      exact fin _ _ (by split <;> omega)
    · walk_at "rd"
      exact fin _ _ (Int.le_refl _)
theorem ok_l_bag (T : Txt K mg) : FnOk P w K mg base CX0 1 T.l_bag_a T.l_bag_d ["_law_script", "_law_at"] (sp_l_bag T) := by
  refine T.l_bag_f.ok sc_l_bag (fun vs H Q E h => len_l_bag T vs H Q E h) (fun cdv A outer s H vs Q E hr h => ⟨t_l_bag T, PSs.nox ?_, pure_l_bag T vs H Q E h⟩)
  have hu := hu64 hr
  exact (pss_cons (ps_set (i := 2) sc_l_bag.nd rfl (.inl rfl) (pe_ifExp (pt_cmpR op_lt (pv 1) (pe_callB c_lenU (by rfl) T.n_len (by decide +kernel) (pa_cons (pv 0) pa_nil)) (nomark _)) (pe_ix ix_seq (pv 0) (pv 1) (fun _ _ => rfl)) pe_int))
      (pss_cons (ps_set (i := 3) sc_l_bag.nd rfl (.inl rfl) (pe_ifExp (pt_cmpR op_ge (pe_callB c_abs (by rfl) T.n_abs (by decide +kernel) (pa_cons (pv 2) pa_nil)) (pe_op op_pow pe_int pe_int) (nomark _)) (pe_callB c_abs (by rfl) T.n_abs (by decide +kernel) (pa_cons (pv 2) pa_nil)) pe_int))
      (pss_one (ps_ret (pe_lst (pa_cons (pv 3) (pa_cons (pe_op op_modN (pe_op op_mulU (pe_op op_addU (pe_op op_addU (pe_op op_modN (pv 2) pe_int) (pe_op op_mulU pe_int (pv 1))) pe_int) pe_int) pe_int) (pa_cons pe_int pa_nil))))))))

def sp_l_of (T : Txt K mg) : Sp := fun vs H Q _ => ∃ (b l : Addr) (xs : List V) (n : Nat), vs = [.ref b, .ref l] ∧ SqL K H l xs ∧ l ≠ b ∧ BagAt H b (n + 1) ∧ 0 < xs.length ∧ xs.length < 1000000 ∧
  ∀ (j : Nat) x H', xs[j]? = some x → BagAt H' b n → SameB b H H' → Q x H'
theorem len_l_of (T : Txt K mg) (vs : List V) (H : Hp) (Q : VK) (E : XK) (h : sp_l_of T vs H Q E) : vs.length = 2 := by
  obtain ⟨a, l, xs, i, rfl, _⟩ := h
  rfl
def t_l_of (T : Txt K mg) : TS := (tRet (tOp (rIx K) (tVar 1) (tCall (sp_l_take T) [] E0 (tCons (tVar 0) (tCons (tCB (rLenU K) (tCons (tVar 1) tNil)) tNil)))))

theorem pure_l_of (T : Txt K mg) (vs : List V) (H : Hp) (Q : VK) (E : XK) (h : sp_l_of T vs H Q E) : t_l_of T { nx := fun _ H' => Q .non H', rt := Q } (start ["_law_bag_here", "_law_some"] vs) H := by
  obtain ⟨b, l, xs, n, rfl, hS, hne, hB, h0, h1, q⟩ := h
  unfold t_l_of
  walk_at "rd"
  refine ⟨b, xs.length, n, rfl, hB, by omega, by omega, fun r H' r0 r1 hB' hs => ?_⟩
  obtain ⟨j, rfl⟩ : ∃ j : Nat, r = j := ⟨r.toNat, by omega⟩
  have hj : j < xs.length := by omega
  have g : atI xs (j : Int) = some xs[j] := atI_nat (List.getElem?_eq_getElem hj)
  walk_at "rd"
  exact q j _ _ (List.getElem?_eq_getElem hj) hB' hs
theorem ok_l_of (T : Txt K mg) : FnOk P w K mg base CX0 2 T.l_of_a T.l_of_d ["_law_bag_here", "_law_some"] (sp_l_of T) := by
  refine T.l_of_f.ok sc_l_of (fun vs H Q E h => len_l_of T vs H Q E h) (fun cdv A outer s H vs Q E hr h => ⟨t_l_of T, PSs.nox ?_, pure_l_of T vs H Q E h⟩)
  have hu := hu64 hr
  exact (pss_one (ps_ret (pe_ix ix_seq (pv 1) (pe_call (ok_l_take T) (hr.mono (by decide)) (by rfl) T.l_take_g T.l_take_f.kp T.l_take_b .nil pass0 (pa_cons (pv 0) (pa_cons (pe_callB c_lenU (by rfl) T.n_len (by decide +kernel) (pa_cons (pv 1) pa_nil)) pa_nil))) (fun _ _ => rfl))))



/-! ### signs -/
def prn : List Nat := List.range' 32 5 ++ List.range' 38 89
theorem prn_eq : (Str.ofString " !\"#$&'()*+,-./0123456789:;<=>?@ABCDEFGHIJKLMNOPQRSTUVWXYZ[\\]^_`abcdefghijklmnopqrstuvwxyz{|}~").cps.toList = prn := by decide +kernel
/-- a sign that a code may have -/
def Sg (c : Nat) : Prop := 33 ≤ c ∧ c ≤ 126 ∧ c ≠ 37
theorem Sg.mem {c : Nat} (h : Sg c) : c ∈ prn := by
  unfold prn
  unfold Sg at h
  rw [List.mem_append, List.mem_range'_1, List.mem_range'_1]
  omega
def Sgs (z : Str) : Prop := ∀ c ∈ z.cps.toList, Sg c
/-- whole numbers, and only they -/
def isI : V → Bool
  | .int _ => true
  | _ => false
def sp_is_integer (T : Txt K mg) : Sp := fun vs H Q _ => ∃ v t, vs = [v] ∧ Kd H v t ∧ Q (.bl (isI v)) H
theorem len_is_integer (T : Txt K mg) (vs : List V) (H : Hp) (Q : VK) (E : XK) (h : sp_is_integer T vs H Q E) : vs.length = 1 := by
  obtain ⟨_, _, rfl, _⟩ := h
  rfl
def t_is_integer (T : Txt K mg) : TS := (tRet (tAndV (tCB (rIsi K) (tCons (tVar 0) (tCons (tC (.ty "int")) tNil))) (tNotV (tCB (rIsi K) (tCons (tVar 0) (tCons (tC (.ty "bool")) tNil))))))

theorem pure_is_integer (T : Txt K mg) (vs : List V) (H : Hp) (Q : VK) (E : XK) (h : sp_is_integer T vs H Q E) : t_is_integer T { nx := fun _ H' => Q .non H', rt := Q } (start ["value"] vs) H := by
  obtain ⟨v, t, rfl, k, q⟩ := h
  unfold t_is_integer
  walk_at "rd"
  refine r_isiInt k ?_
  walk_at "rd"
  cases k with
  | int x =>
    refine r_iteT ?_
    walk_at "rd"
    refine r_isiBool (.int x) ?_
    walk_at "rd"
    exact q
  | bl b =>
    refine r_iteT ?_
    walk_at "rd"
    refine r_isiBool (.bl b) ?_
    walk_at "rd"
    exact q
  | non => exact r_iteF q
  | str z => exact r_iteF q
  | lst h => exact r_iteF q
  | tup h => exact r_iteF q
theorem ok_is_integer (T : Txt K mg) : FnOk P w K mg base CX0 1 T.is_integer_a T.is_integer_d ["value"] (sp_is_integer T) := by
  refine T.is_integer_f.ok sc_is_integer (fun vs H Q E h => len_is_integer T vs H Q E h) (fun cdv A outer s H vs Q E hr h => ⟨t_is_integer T, PSs.nox ?_, pure_is_integer T vs H Q E h⟩)
  have hu := hu64 hr
  exact (pss_one (ps_ret (pe_and (pe_callB call_isi (by rfl) T.n_isinstance (by decide +kernel) (pa_cons (pv 0) (pa_cons (pe_bltn (v := .ty "int") (by rfl) T.n_int (by decide +kernel) rfl) pa_nil))) (pe_one (pe_not (pe_callB call_isi (by rfl) T.n_isinstance (by decide +kernel) (pa_cons (pv 0) (pa_cons (pe_bltn (v := .ty "bool") (by rfl) T.n_bool (by decide +kernel) rfl) pa_nil))))))))

def isW (lo hi : Int) : V → Bool
  | .int x => decide (lo ≤ x) && decide (x ≤ hi)
  | _ => false
def sp_is_within (T : Txt K mg) : Sp := fun vs H Q _ => ∃ v t, ∃ lo hi : Int, vs = [v, .int lo, .int hi] ∧ Kd H v t ∧ Q (.bl (isW lo hi v)) H
theorem len_is_within (T : Txt K mg) (vs : List V) (H : Hp) (Q : VK) (E : XK) (h : sp_is_within T vs H Q E) : vs.length = 3 := by
  obtain ⟨_, _, _, _, rfl, _⟩ := h
  rfl
def t_is_within (T : Txt K mg) : TS := (tRet (tAndV (tCall (sp_is_integer T) [] E0 (tCons (tVar 0) tNil)) (tChain rLeI rLeI (tVar 1) (tVar 0) (tVar 2))))

theorem pure_is_within (T : Txt K mg) (vs : List V) (H : Hp) (Q : VK) (E : XK) (h : sp_is_within T vs H Q E) : t_is_within T { nx := fun _ H' => Q .non H', rt := Q } (start ["value", "low", "high"] vs) H := by
  obtain ⟨v, t, lo, hi, rfl, k, q⟩ := h
  unfold t_is_within
  walk_at "rd"
  refine ⟨v, t, rfl, k, ?_⟩
  walk_at "rd"
  cases k with
  | int x =>
    refine r_iteT ?_
    have q : Q (.bl (decide (lo ≤ x) && decide (x ≤ hi))) H := q
    walk_at "rd"
    refine r_iteD (fun h => ?_) (fun h => ?_)
    · walk_at "rd"
      rw [decide_eq_true h, Bool.true_and] at q
      exact q
    · rw [decide_eq_false h, Bool.false_and] at q
      exact q
  | bl b => exact r_iteF q
  | non => exact r_iteF q
  | str z => exact r_iteF q
  | lst h => exact r_iteF q
  | tup h => exact r_iteF q
theorem ok_is_within (T : Txt K mg) : FnOk P w K mg base CX0 2 T.is_within_a T.is_within_d ["value", "low", "high"] (sp_is_within T) := by
  refine T.is_within_f.ok sc_is_within (fun vs H Q E h => len_is_within T vs H Q E h) (fun cdv A outer s H vs Q E hr h => ⟨t_is_within T, PSs.nox ?_, pure_is_within T vs H Q E h⟩)
  have hu := hu64 hr
  exact (pss_one (ps_ret (pe_and (pe_call (ok_is_integer T) (hr.mono (by decide)) (by rfl) T.is_integer_g T.is_integer_f.kp T.is_integer_b .nil pass0 (pa_cons (pv 0) pa_nil)) (pe_one (pe_chain op_le op_le (pv 1) (pv 0) (pv 2))))))

abbrev isB : V → Bool := isW 0 255
def sp_is_byte (T : Txt K mg) : Sp := fun vs H Q _ => ∃ v t, vs = [v] ∧ Kd H v t ∧ Q (.bl (isB v)) H
theorem len_is_byte (T : Txt K mg) (vs : List V) (H : Hp) (Q : VK) (E : XK) (h : sp_is_byte T vs H Q E) : vs.length = 1 := by
  obtain ⟨_, _, rfl, _⟩ := h
  rfl
def t_is_byte (T : Txt K mg) : TS := (tRet (tCall (sp_is_within T) [] E0 (tCons (tVar 0) (tCons (tC (.int 0)) (tCons (tC (.int 255)) tNil)))))

theorem pure_is_byte (T : Txt K mg) (vs : List V) (H : Hp) (Q : VK) (E : XK) (h : sp_is_byte T vs H Q E) : t_is_byte T { nx := fun _ H' => Q .non H', rt := Q } (start ["value"] vs) H := by
  obtain ⟨v, t, rfl, k, q⟩ := h
  unfold t_is_byte
  walk_at "rd"
  exact ⟨v, t, 0, 255, rfl, k, q⟩
theorem ok_is_byte (T : Txt K mg) : FnOk P w K mg base CX0 3 T.is_byte_a T.is_byte_d ["value"] (sp_is_byte T) := by
  refine T.is_byte_f.ok sc_is_byte (fun vs H Q E h => len_is_byte T vs H Q E h) (fun cdv A outer s H vs Q E hr h => ⟨t_is_byte T, PSs.nox ?_, pure_is_byte T vs H Q E h⟩)
  have hu := hu64 hr
  exact (pss_one (ps_ret (pe_call (ok_is_within T) (hr.mono (by decide)) (by rfl) T.is_within_g T.is_within_f.kp T.is_within_b .nil pass0 (pa_cons (pv 0) (pa_cons pe_int (pa_cons pe_int pa_nil))))))

def sp_is_sign (T : Txt K mg) : Sp := fun vs H Q _ => ∃ c : Nat, vs = [.str ⟨#[c]⟩] ∧ Sg c ∧ Q (.bl true) H
theorem len_is_sign (T : Txt K mg) (vs : List V) (H : Hp) (Q : VK) (E : XK) (h : sp_is_sign T vs H Q E) : vs.length = 1 := by
  obtain ⟨_, rfl, _⟩ := h
  rfl
def t_is_sign (T : Txt K mg) : TS := (tRet (tAndV (tCB (rIsi K) (tCons (tVar 0) (tCons (tC (.ty "str")) tNil))) (tAndV (tOp (rEqU K) (tCB (rLenU K) (tCons (tVar 0) tNil)) (tC (.int 1))) (tAndV (tOp (rInU K) (tVar 0) (tC (.str (Str.ofString " !\"#$&'()*+,-./0123456789:;<=>?@ABCDEFGHIJKLMNOPQRSTUVWXYZ[\\]^_`abcdefghijklmnopqrstuvwxyz{|}~")))) (tOp (rNeU K) (tVar 0) (tC (.str (Str.ofString " "))))))))

theorem pure_is_sign (T : Txt K mg) (vs : List V) (H : Hp) (Q : VK) (E : XK) (h : sp_is_sign T vs H Q E) : t_is_sign T { nx := fun _ H' => Q .non H', rt := Q } (start ["value"] vs) H := by
  obtain ⟨c, rfl, hc, q⟩ := h
  unfold t_is_sign
  walk_at "rd"
  refine r_isiS ?_
  walk_at "rd"
  refine r_lenUS (by show 1 ≤ sizeLine; decide) ?_
  walk_at "rd"
  refine r_iteD (fun _ => ?_) (fun h => absurd rfl h)
  walk_at "rd"
  refine r_inS ⟨c, _, rfl, rfl, ?_⟩
  rw [prn_eq, decide_eq_true hc.mem]
  walk_at "rd"
  have hne : (⟨#[c]⟩ : Str) ≠ Str.ofString " " := by
    intro z
    have e : c = 32 := by
      have z2 := congrArg (fun s : Str => s.cps.toList) z
      have z3 : [c] = [32] := z2
      exact (List.cons.inj z3).1
    unfold Sg at hc
    omega
  rw [decide_eq_false hne]
  exact q
theorem ok_is_sign (T : Txt K mg) : FnOk P w K mg base CX0 1 T.is_sign_a T.is_sign_d ["value"] (sp_is_sign T) := by
  refine T.is_sign_f.ok sc_is_sign (fun vs H Q E h => len_is_sign T vs H Q E h) (fun cdv A outer s H vs Q E hr h => ⟨t_is_sign T, PSs.nox ?_, pure_is_sign T vs H Q E h⟩)
  have hu := hu64 hr
  exact (pss_one (ps_ret (pe_and (pe_callB call_isi (by rfl) T.n_isinstance (by decide +kernel) (pa_cons (pv 0) (pa_cons (pe_bltn (v := .ty "str") (by rfl) T.n_str (by decide +kernel) rfl) pa_nil))) (pe_and (pe_cmpR (op_eqU hu) (pe_callB c_lenU (by rfl) T.n_len (by decide +kernel) (pa_cons (pv 0) pa_nil)) pe_int (nomark _)) (pe_and (pe_cmpR op_inU (pv 0) (pe_glob (by rfl) T.k_PRINTED_g T.k_PRINTED_r) (by rfl)) (pe_one (pe_cmpR (op_neU hu) (pv 0) pe_str (nomark _))))))))

def sp_are_signs (T : Txt K mg) : Sp := fun vs H Q _ => ∃ z : Str, vs = [.str z] ∧ z.length ≤ 1000 ∧ Sgs z ∧ z.cps.toList.Nodup ∧ ∀ H', Same H H' → Q (.bl true) H'
theorem len_are_signs (T : Txt K mg) (vs : List V) (H : Hp) (Q : VK) (E : XK) (h : sp_are_signs T vs H Q E) : vs.length = 1 := by
  obtain ⟨_, rfl, _⟩ := h
  rfl
def t_are_signs (T : Txt K mg) : TS := (tSeq (tIfS (tOr (tNot (tB (tCB (rIsi K) (tCons (tVar 0) (tCons (tC (.ty "str")) tNil))))) (tNot (tB (tCB (rAll K) (tCons (tLc (iSeqU K (tVar 0)) (gName 1) tYes (tCall (sp_is_sign T) [] E0 (tCons (tVar 1) tNil)) [1]) tNil))))) (tRet (tC (.bl false))) tNext)
    (tRet (tOp (rEqU K) (tDist 1 (tVar 0)) (tCB (rLenU K) (tCons (tVar 0) tNil)))))

theorem pure_are_signs (T : Txt K mg) (vs : List V) (H : Hp) (Q : VK) (E : XK) (h : sp_are_signs T vs H Q E) : t_are_signs T { nx := fun _ H' => Q .non H', rt := Q } (start ["value", "character"] vs) H := by
  obtain ⟨z, rfl, hl, hs, hn, q⟩ := h
  unfold t_are_signs
  walk_at "rd"
  refine r_isiS ?_
  walk_at "rd"
  refine r_iseqS ?_
  walk_at "rd"
  refine ⟨z, rfl, fun D hD => ?_⟩
  refine c_it walk_str (fun i G => G D = some (.lst ((List.replicate i true).map V.bl)) ∧ Same H G) ⟨upd_same, same_new hD⟩ (fun _ _ _ _ => trivial) ?_ ?_
  · rintro i x G G' hi ⟨hG, sG⟩ ⟨rfl, c, hc, rfl⟩
    walk_at "rd"
    refine ⟨rfl, ?_⟩
    walk_at "rd"
    refine ⟨c, rfl, hs c ?_, ?_⟩
    · exact Array.mem_toList_iff.mpr (Array.mem_of_getElem? hc)
    refine ⟨_, hG, ?_, ?_, same_mut sG hD⟩
    · rw [List.length_map, List.length_replicate]
      exact Nat.lt_trans hi (Nat.lt_of_le_of_lt hl (by rw [sizeLine_eq]; decide))
    · rw [upd_same, List.replicate_succ', List.map_append]
      rfl
  rintro G ⟨hG, sG⟩
  walk_at "rd"
  refine r_all (ql hG) ?_
  rw [show (List.replicate z.cps.size true).all id = true by simp]
  walk_at "rd"
  refine r_dist (by exact Nat.lt_succ_self 1) ?_
  walk_at "rd"
  refine ⟨z, rfl, hl, fun H2 s2 => ?_⟩
  walk_at "rd"
  refine r_lenUS (Nat.le_trans hl (by rw [sizeLine_eq]; decide)) ?_
  walk_at "rd"
  rw [uniq_nodup hn, Array.length_toList, decide_eq_true (show ((z.cps.size : Nat) : Int) = (z.length : Nat) from rfl)]
  exact q _ (sG.trans s2)
theorem ok_are_signs (T : Txt K mg) : FnOk P w K mg base CX0 2 T.are_signs_a T.are_signs_d ["value"] (sp_are_signs T) := by
  refine T.are_signs_f.ok sc_are_signs (fun vs H Q E h => len_are_signs T vs H Q E h) (fun cdv A outer s H vs Q E hr h => ⟨t_are_signs T, PSs.nox ?_, pure_are_signs T vs H Q E h⟩)
  have hu := hu64 hr
  exact (pss_cons (ps_if (PW.pt (pw_or (pt_not (pt_val (pe_callB call_isi (by rfl) T.n_isinstance (by decide +kernel) (pa_cons (pv 0) (pa_cons (pe_bltn (v := .ty "str") (by rfl) T.n_str (by decide +kernel) rfl) pa_nil))))) (pw_or1 (pt_not (pt_val (pe_callB (cr_all rfl) (by rfl) T.n_all (by decide +kernel) (pa_cons (pe_lc (own := [("character", 1)]) (g := (gName 1)) (tt := tYes) rfl sc_are_signs.nd (pi_seqU (pv 0)) (blkOk_by (own := [("character", 1)]) (N := ["value", "character"]) (sc := defScope s_are_signs) (by decide +kernel)) (fun _ _ _ _ _ => (pg_name (i := 1) sc_are_signs.nd rfl (.inl rfl))) (fun _ _ _ _ _ => pts_nil) (fun _ _ _ _ _ => (pe_call (ok_is_sign T) (hr.mono (by decide)) (by rfl) T.is_sign_g T.is_sign_f.kp T.is_sign_b .nil pass0 (pa_cons (pv 1) pa_nil)))) pa_nil))))))) (pss_one (ps_ret pe_bl)) pss_nil)
      (pss_one (ps_ret (pe_cmpR (op_eqU hu) (pe_distinct (fun σ H P P' f ⟨v, e, q⟩ => ⟨v, e, f _ _ q⟩) (pe_callB call_lenT (by rfl) T.n_len (by decide +kernel) (pa_cons (pe_scT (own := [("character", 1)]) (g := gName 1) (tt := tYes) rfl sc_are_signs.nd (pi_seqU (pv 0)) (blkOk_by (own := [("character", 1)]) (N := ["value", "character"]) (sc := defScope s_are_signs) (by decide +kernel)) (fun _ _ _ _ _ => (pg_name (i := 1) sc_are_signs.nd rfl (.inl rfl))) (fun _ _ _ _ _ => pts_nil) (fun _ _ _ _ _ => (pv 1))) pa_nil))) (pe_callB c_lenU (by rfl) T.n_len (by decide +kernel) (pa_cons (pv 0) pa_nil)) (nomark _)))))


end
section
variable {w : World} {K : PySem.W.Frag} {mg : Str → Option Value} {base : Heap}
/-! ### data -/
def Byts (xs : List Int) : Prop := ∀ x ∈ xs, 0 ≤ x ∧ x ≤ 255
def sp_data_of (T : Txt K mg) : Sp := fun vs H Q _ => ∃ (p : Addr) (xs : List Int), vs = [.ref p] ∧ H p = some (.lst (xs.map V.int)) ∧ xs.length ≤ 600 ∧ Byts xs ∧
  ∀ r H', Same H H' → H r = none → H' r = some (.lst (xs.map V.int)) → Q (.ref r) H'
theorem len_data_of (T : Txt K mg) (vs : List V) (H : Hp) (Q : VK) (E : XK) (h : sp_data_of T vs H Q E) : vs.length = 1 := by
  obtain ⟨_, _, rfl, _⟩ := h
  rfl
theorem at_int {xs : List Int} {i : Nat} {x : V} (h : (xs.map V.int)[i]? = some x) : ∃ z, xs[i]? = some z ∧ x = .int z := by
  rw [List.getElem?_map] at h
  cases e : xs[i]? with
  | none => rw [e] at h; cases h
  | some a => rw [e] at h; exact ⟨a, rfl, (Option.some.inj h).symm⟩
def t_data_of (T : Txt K mg) : TS := (tSeq (tIfS (tOr (tNot (tB (tCB (rIsiT K) (tCons (tVar 0) (tCons (tTup (tCons (tC (.ty "list")) (tCons (tC (.ty "tuple")) tNil))) tNil))))) (tTest (tOp rGtI (tCB (rLenU K) (tCons (tVar 0) tNil)) (tC (.int 600))))) tNever tNext)
    (tSeq (tFor (iEnumU K (tCons (tVar 0) tNil)) (gTup K 2 (gCons (gName 1) (gCons (gName 2) gNil))) (tIfS (tNot (tB (tCall (sp_is_byte T) [] E0 (tCons (tVar 2) tNil)))) tNever tNext))
    (tRet (tCB (rListOf K) (tCons (tVar 0) tNil)))))

theorem pure_data_of (T : Txt K mg) (vs : List V) (H : Hp) (Q : VK) (E : XK) (h : sp_data_of T vs H Q E) : t_data_of T { nx := fun _ H' => Q .non H', rt := Q } (start ["value", "index", "byte"] vs) H := by
  obtain ⟨p, xs, rfl, hp, hl, hb, q⟩ := h
  unfold t_data_of
  walk_at "rd"
  refine And.intro (by walk_at "sz") ?_
  intro t nt
  generalize hg : upd _ t _ = Hn
  have hs := same_of hg nt
  have hv := at_of hg
  clear hg
  have hp1 : Hn p = some (.lst (xs.map V.int)) := hs _ _ hp
  walk_at "rd"
  refine r_isiTL hp1 hv ?_
  walk_at "rd"
  refine r_iteD (fun h => absurd h (by rw [List.length_map]; omega)) (fun _ => ?_)
  walk_at "rd"
  refine r_enumL ?_
  walk_at "rd"
  refine ⟨p, _, rfl, ql hp1, ?_⟩
  refine f_it (walk_enum (K := K) (a := p) (xs := xs.map V.int)) (fun i σ G => ∃ v1 v2, σ = [some (.ref p), v1, v2] ∧ Same Hn G) ⟨none, none, rfl, Same.refl Hn⟩ (fun i σ G _ h => by
    obtain ⟨_, _, _, s⟩ := h
    exact ql (s _ _ hp1)) ?_ ?_
  · rintro i x σ G G' hi ⟨v1, v2, rfl, sG⟩ ⟨Tp, a, b, rfl, nT, hG', ea, eb⟩
    have hsT := same_of hG'.symm nT
    have hvT := at_of hG'.symm
    clear hG'
    cases ea
    obtain ⟨z, hz, rfl⟩ := at_int eb
    have bz := hb z (List.mem_of_getElem? hz)
    walk_at "rd"
    refine ⟨_, _, rfl, .int z, ?_⟩
    rw [show isB (.int z) = true by
      show (decide (0 ≤ z) && decide (z ≤ 255)) = true
      rw [decide_eq_true bz.1, decide_eq_true bz.2]; rfl]
    walk_at "rd"
    exact ⟨_, _, rfl, sG.trans hsT⟩
  · rintro σ G ⟨v1, v2, rfl, sG⟩
    have hp2 : G p = some (.lst (xs.map V.int)) := sG _ _ hp1
    walk_at "rd"
    intro r nr
    generalize hg : upd _ r _ = Hr
    have hsr := same_of hg nr
    have hvr := at_of hg
    exact q r Hr (hs.trans (sG.trans hsr)) ((hs.trans sG).free nr) hvr
theorem ok_data_of (T : Txt K mg) : FnOk P w K mg base CX0 4 T.data_of_a T.data_of_d ["value"] (sp_data_of T) := by
  refine T.data_of_f.ok sc_data_of (fun vs H Q E h => len_data_of T vs H Q E h) (fun cdv A outer s H vs Q E hr h => ⟨t_data_of T, PSs.nox ?_, pure_data_of T vs H Q E h⟩)
  have hu := hu64 hr
  exact (pss_cons (ps_if (PW.pt (pw_or (pt_not (pt_val (pe_callB call_isiT (by rfl) T.n_isinstance (by decide +kernel) (pa_cons (pv 0) (pa_cons (pe_tup (pa_cons (pe_bltn (v := .ty "list") (by rfl) T.n_list (by decide +kernel) rfl) (pa_cons (pe_bltn (v := .ty "tuple") (by rfl) T.n_tuple (by decide +kernel) rfl) pa_nil))) pa_nil))))) (pw_or1 (pt_cmpR op_gt (pe_callB c_lenU (by rfl) T.n_len (by decide +kernel) (pa_cons (pv 0) pa_nil)) (pe_glob (by rfl) T.k_MOST_BYTES_g T.k_MOST_BYTES_r) (nomark _))))) (pss_one ps_never) pss_nil)
      (pss_cons (ps_for PassesOwn.never rfl (pi_enumU (by rfl) T.n_enumerate (pa_cons (pv 0) pa_nil)) (pg_tup (by rfl) (pgs_cons (pg_name (i := 1) sc_data_of.nd rfl (.inl rfl)) (pgs_cons (pg_name (i := 2) sc_data_of.nd rfl (.inl rfl)) pgs_nil))) (pss_one (ps_if (pt_not (pt_val (pe_call (ok_is_byte T) (hr.mono (by decide)) (by rfl) T.is_byte_g T.is_byte_f.kp T.is_byte_b .nil pass0 (pa_cons (pv 2) pa_nil)))) (pss_one ps_never) pss_nil)))
      (pss_one (ps_ret (pe_callTy call_list_of (by rfl) T.n_list (by decide +kernel) (pa_cons (pv 0) pa_nil))))))

/-! ### a code -/
structure CodeD where
  sg : Str
  pd : Str
  wd : Nat
  sb : Nat
structure CodeD.Ok (c : CodeD) : Prop where
  b1 : 1 ≤ c.sb
  b6 : c.sb ≤ 6
  ln : c.sg.length = 2 ^ c.sb
  sgs : Sgs c.sg
  pds : Sgs c.pd
  pl : c.pd.length ≤ 1
  wd76 : c.wd ≤ 76
/-- the dict of the digits -/
def Dig (c : CodeD) (kvs : List (Key × V)) : Prop := ∀ (j ch : Nat), c.sg.cps.toList[j]? = some ch → valV kvs (.inr ⟨#[ch]⟩) = some (.int (j : Nat))
def CodeAt (T : Txt K mg) (H : Hp) (a : Addr) (c : CodeD) : Prop := c.Ok ∧ ∃ dx tp dg kvs, H a = some (.ins T.C_Code dx [("parts", .ref tp), ("digits", .ref dg), ("sign_bits", .int c.sb)]) ∧ H tp = some (.tup [.str c.sg, .str c.pd, .int c.wd]) ∧ H dg = some (.dK kvs) ∧ Dig c kvs
theorem CodeAt.same {T : Txt K mg} {H H' : Hp} {a : Addr} {c : CodeD} (h : CodeAt T H a c) (s : Same H H') : CodeAt T H' a c := by
  obtain ⟨o, dx, tp, dg, kvs, h1, h2, h3, h4⟩ := h
  exact ⟨o, dx, tp, dg, kvs, s _ _ h1, s _ _ h2, s _ _ h3, h4⟩
/-- a getter's promise -/
def spG (T : Txt K mg) (g : CodeD → V) : Sp := fun vs H Q _ => ∃ a c, vs = [.ref a] ∧ CodeAt T H a c ∧ Q (g c) H
theorem len_spG (T : Txt K mg) (g : CodeD → V) (vs : List V) (H : Hp) (Q : VK) (E : XK) (h : spG T g vs H Q E) : vs.length = 1 := by
  obtain ⟨_, _, rfl, _⟩ := h
  rfl
abbrev sp_Code_signs (T : Txt K mg) : Sp := spG T fun c => .str c.sg
abbrev sp_Code_pad (T : Txt K mg) : Sp := spG T fun c => .str c.pd
abbrev sp_Code_width (T : Txt K mg) : Sp := spG T fun c => .int c.wd
abbrev sp_Code_bits (T : Txt K mg) : Sp := spG T fun c => .int c.sb
def grp (b : Nat) : Nat := [0, 8, 4, 8, 2, 8, 4].getD b 0
theorem grp_at {n : Nat} (h : n ≤ 6) : atI [V.int 0, V.int 8, V.int 4, V.int 8, V.int 2, V.int 8, V.int 4] (n : Int) = some (V.int (grp n : Nat)) := by
  have e : n = 0 ∨ n = 1 ∨ n = 2 ∨ n = 3 ∨ n = 4 ∨ n = 5 ∨ n = 6 := by omega
  rcases e with rfl | rfl | rfl | rfl | rfl | rfl | rfl <;> rfl
abbrev sp_Code_group (T : Txt K mg) : Sp := spG T fun c => .int (grp c.sb : Nat)
theorem len_Code_signs (T : Txt K mg) (vs : List V) (H : Hp) (Q : VK) (E : XK) (h : sp_Code_signs T vs H Q E) : vs.length = 1 := len_spG T _ vs H Q E h
theorem len_Code_pad (T : Txt K mg) (vs : List V) (H : Hp) (Q : VK) (E : XK) (h : sp_Code_pad T vs H Q E) : vs.length = 1 := len_spG T _ vs H Q E h
theorem len_Code_width (T : Txt K mg) (vs : List V) (H : Hp) (Q : VK) (E : XK) (h : sp_Code_width T vs H Q E) : vs.length = 1 := len_spG T _ vs H Q E h
theorem len_Code_bits (T : Txt K mg) (vs : List V) (H : Hp) (Q : VK) (E : XK) (h : sp_Code_bits T vs H Q E) : vs.length = 1 := len_spG T _ vs H Q E h
theorem len_Code_group (T : Txt K mg) (vs : List V) (H : Hp) (Q : VK) (E : XK) (h : sp_Code_group T vs H Q E) : vs.length = 1 := len_spG T _ vs H Q E h
theorem r_parts {T : Txt K mg} {σ : S} {H : Hp} {Q : VK} {i : Nat} {a : Addr} {c : CodeD} (h0 : σ[i]? = some (some (.ref a))) (hc : CodeAt T H a c) (k : ∀ tp, H tp = some (.tup [.str c.sg, .str c.pd, .int c.wd]) → Q (.ref tp) H) : tFld K (tVar i) "parts" σ H Q := by
  refine ⟨_, h0, ?_⟩
  obtain ⟨o, dx, tp, dg, kvs, h1, h2, h3, h4⟩ := hc
  exact ⟨a, _, dx, _, .ref tp, rfl, h1, T.C_Code_c, T.C_Code_n_parts, rfl, k tp h2⟩
theorem r_bits {T : Txt K mg} {σ : S} {H : Hp} {Q : VK} {i : Nat} {a : Addr} {c : CodeD} (h0 : σ[i]? = some (some (.ref a))) (hc : CodeAt T H a c) (k : Q (.int c.sb) H) : tFld K (tVar i) "sign_bits" σ H Q := by
  refine ⟨_, h0, ?_⟩
  obtain ⟨o, dx, tp, dg, kvs, h1, h2, h3, h4⟩ := hc
  exact ⟨a, _, dx, _, .int c.sb, rfl, h1, T.C_Code_c, T.C_Code_n_sign_bits, rfl, k⟩
def t_Code_signs (T : Txt K mg) : TS := (tRet (tOp (rIx K) (tFld K (tVar 0) "parts") (tC (.int 0))))

theorem pure_Code_signs (T : Txt K mg) (vs : List V) (H : Hp) (Q : VK) (E : XK) (h : sp_Code_signs T vs H Q E) : t_Code_signs T { nx := fun _ H' => Q .non H', rt := Q } (start ["self"] vs) H := by
  obtain ⟨a, c, rfl, hc, q⟩ := h
  unfold t_Code_signs
  walk_at "rd"
  refine r_parts rfl hc fun tp ht => ?_
  walk_at "rd"
  exact q
theorem ok_Code_signs (T : Txt K mg) : FnOk P w K mg base CX0 1 T.Code_signs_a T.Code_signs_d ["self"] (sp_Code_signs T) := by
  refine T.Code_signs_f.ok sc_Code_signs (fun vs H Q E h => len_Code_signs T vs H Q E h) (fun cdv A outer s H vs Q E hr h => ⟨t_Code_signs T, PSs.nox ?_, pure_Code_signs T vs H Q E h⟩)
  have hu := hu64 hr
  exact (pss_one (ps_ret (pe_ix ix_seq (pe_fld (pv 0) rfl) pe_int (fun _ _ => rfl))))

def t_Code_pad (T : Txt K mg) : TS := (tRet (tOp (rIx K) (tFld K (tVar 0) "parts") (tC (.int 1))))

theorem pure_Code_pad (T : Txt K mg) (vs : List V) (H : Hp) (Q : VK) (E : XK) (h : sp_Code_pad T vs H Q E) : t_Code_pad T { nx := fun _ H' => Q .non H', rt := Q } (start ["self"] vs) H := by
  obtain ⟨a, c, rfl, hc, q⟩ := h
  unfold t_Code_pad
  walk_at "rd"
  refine r_parts rfl hc fun tp ht => ?_
  walk_at "rd"
  exact q
theorem ok_Code_pad (T : Txt K mg) : FnOk P w K mg base CX0 1 T.Code_pad_a T.Code_pad_d ["self"] (sp_Code_pad T) := by
  refine T.Code_pad_f.ok sc_Code_pad (fun vs H Q E h => len_Code_pad T vs H Q E h) (fun cdv A outer s H vs Q E hr h => ⟨t_Code_pad T, PSs.nox ?_, pure_Code_pad T vs H Q E h⟩)
  have hu := hu64 hr
  exact (pss_one (ps_ret (pe_ix ix_seq (pe_fld (pv 0) rfl) pe_int (fun _ _ => rfl))))

def t_Code_width (T : Txt K mg) : TS := (tRet (tOp (rIx K) (tFld K (tVar 0) "parts") (tC (.int 2))))

theorem pure_Code_width (T : Txt K mg) (vs : List V) (H : Hp) (Q : VK) (E : XK) (h : sp_Code_width T vs H Q E) : t_Code_width T { nx := fun _ H' => Q .non H', rt := Q } (start ["self"] vs) H := by
  obtain ⟨a, c, rfl, hc, q⟩ := h
  unfold t_Code_width
  walk_at "rd"
  refine r_parts rfl hc fun tp ht => ?_
  walk_at "rd"
  exact q
theorem ok_Code_width (T : Txt K mg) : FnOk P w K mg base CX0 1 T.Code_width_a T.Code_width_d ["self"] (sp_Code_width T) := by
  refine T.Code_width_f.ok sc_Code_width (fun vs H Q E h => len_Code_width T vs H Q E h) (fun cdv A outer s H vs Q E hr h => ⟨t_Code_width T, PSs.nox ?_, pure_Code_width T vs H Q E h⟩)
  have hu := hu64 hr
  exact (pss_one (ps_ret (pe_ix ix_seq (pe_fld (pv 0) rfl) pe_int (fun _ _ => rfl))))

def t_Code_bits (T : Txt K mg) : TS := (tRet (tFld K (tVar 0) "sign_bits"))

theorem pure_Code_bits (T : Txt K mg) (vs : List V) (H : Hp) (Q : VK) (E : XK) (h : sp_Code_bits T vs H Q E) : t_Code_bits T { nx := fun _ H' => Q .non H', rt := Q } (start ["self"] vs) H := by
  obtain ⟨a, c, rfl, hc, q⟩ := h
  unfold t_Code_bits
  walk_at "rd"
  exact r_bits rfl hc q
theorem ok_Code_bits (T : Txt K mg) : FnOk P w K mg base CX0 1 T.Code_bits_a T.Code_bits_d ["self"] (sp_Code_bits T) := by
  refine T.Code_bits_f.ok sc_Code_bits (fun vs H Q E h => len_Code_bits T vs H Q E h) (fun cdv A outer s H vs Q E hr h => ⟨t_Code_bits T, PSs.nox ?_, pure_Code_bits T vs H Q E h⟩)
  have hu := hu64 hr
  exact (pss_one (ps_ret (pe_fld (pv 0) rfl)))

def t_Code_group (T : Txt K mg) : TS := (tRet (tOp (rIx K) (tC (.ref T.k_GROUPS_a)) (tFld K (tVar 0) "sign_bits")))

theorem pure_Code_group (T : Txt K mg) (vs : List V) (H : Hp) (Q : VK) (E : XK) (h : sp_Code_group T vs H Q E) : t_Code_group T { nx := fun _ H' => Q .non H', rt := Q } (start ["self"] vs) H := by
  obtain ⟨a, c, rfl, hc, q⟩ := h
  unfold t_Code_group
  walk_at "rd"
  refine r_bits rfl hc ?_
  exact r_ixT (T.k_GROUPS_t H) (grp_at hc.1.b6) q
theorem ok_Code_group (T : Txt K mg) : FnOk P w K mg base CX0 1 T.Code_group_a T.Code_group_d ["self"] (sp_Code_group T) := by
  refine T.Code_group_f.ok sc_Code_group (fun vs H Q E h => len_Code_group T vs H Q E h) (fun cdv A outer s H vs Q E hr h => ⟨t_Code_group T, PSs.nox ?_, pure_Code_group T vs H Q E h⟩)
  have hu := hu64 hr
  exact (pss_one (ps_ret (pe_ix ix_seq (pe_glob (by rfl) T.k_GROUPS_g rfl) (pe_fld (pv 0) rfl) (fun _ _ => rfl))))

/-! ### steps over a code -/
theorem r_get {T : Txt K mg} {g : CodeD → V} {σ : S} {H : Hp} {Q : VK} {i : Nat} {a : Addr} {c : CodeD} (h0 : σ[i]? = some (some (.ref a))) (hc : CodeAt T H a c) (h : Q (g c) H) : tProp T.C_Code (spG T g) [] E0 (tVar i) σ H Q := by
  refine ⟨_, h0, ?_⟩
  have hc' := hc
  obtain ⟨o, dx, tp, dg, kvs, h1, h2, h3, h4⟩ := hc'
  exact ⟨a, dx, _, rfl, h1, a, c, rfl, hc, h⟩
theorem r_methC {T : Txt K mg} {m : Str} {sp : Sp} {σ : S} {H : Hp} {Q : VK} {E : XK} {i : Nat} {a : Addr} {c : CodeD} {tr : TA} (h0 : σ[i]? = some (some (.ref a))) (hc : CodeAt T H a c)
    (hm : ∀ v1 v2 v3 : V, ([("parts", v1), ("digits", v2), ("sign_bits", v3)] : List (Str × V)).lookup m = none) (h : tr σ H fun vs H2 => sp (.ref a :: (vs ++ [])) H2 Q E) : tMeth T.C_Code m sp [] E (tVar i) tr σ H Q := by
  refine ⟨_, h0, ?_⟩
  obtain ⟨o, dx, tp, dg, kvs, h1, h2, h3, h4⟩ := hc
  exact ⟨a, dx, _, rfl, h1, hm _ _ _, h⟩

end
section
variable {w : World} {K : PySem.W.Frag} {mg : Str → Option Value} {base : Heap}
local macro_rules | `(tactic| walk_at "hc") => `(tactic| first
  | assumption
  | ((refine CodeAt.same (H := ?xH) ?xb ?xa); (case xa => assumption); (case xb => walk_at "hc")))
local macro_rules | `(tactic| walk_at "rd0") => `(tactic| first
  | ((with_reducible refine r_get (a := ?xa) (c := ?xc) ?x1 ?x2 ?_); (case x1 => rfl); (case x2 => walk_at "hc"))
  | ((with_reducible refine r_methC (a := ?xa) (c := ?xc) ?x1 ?x2 ?x3 ?_); (case x1 => rfl); (case x2 => walk_at "hc"); (case x3 => (intro _ _ _; rfl)))
  | (with_reducible refine r_fmtB ?_)
  | (with_reducible refine r_dget ?_)
  | (with_reducible refine r_m0 ?_)
  | (with_reducible refine r_makeK ?_)
  | (with_reducible refine r_cval ?_)
  | (with_reducible refine r_sfld ?_)
  | (with_reducible refine r_isiI ?_)
  | (with_reducible refine r_isiIB ?_)
  | (with_reducible refine r_isiS ?_)
  | (with_reducible refine r_inID ?_))

/-! ### where a sign goes -/
def CodeD.full (c : CodeD) (col : Nat) : Bool := decide (0 < c.wd) && decide (col = c.wd)
def CodeD.nxt (c : CodeD) (col : Nat) : Nat := if 0 < c.wd then col + 1 else 0
def CodeD.plc (c : CodeD) (col s : Nat) : List Nat × Nat := if c.full col = true then ([10, s], 1) else ([s], c.nxt col)
def sp_Code_begin (T : Txt K mg) : Sp := fun vs H Q _ => ∃ a c, vs = [.ref a] ∧ CodeAt T H a c ∧ ∀ p H', Same H H' → H p = none → H' p = some (.tup [.str (Str.ofString ""), .int 0, .int 0]) → Q (.ref p) H'
theorem len_Code_begin (T : Txt K mg) (vs : List V) (H : Hp) (Q : VK) (E : XK) (h : sp_Code_begin T vs H Q E) : vs.length = 1 := by
  obtain ⟨_, _, rfl, _⟩ := h
  rfl
def t_Code_begin (T : Txt K mg) : TS := (tRet (tTup (tCons (tC (.str (Str.ofString ""))) (tCons (tC (.int 0)) (tCons (tC (.int 0)) tNil)))))

theorem pure_Code_begin (T : Txt K mg) (vs : List V) (H : Hp) (Q : VK) (E : XK) (h : sp_Code_begin T vs H Q E) : t_Code_begin T { nx := fun _ H' => Q .non H', rt := Q } (start ["self"] vs) H := by
  obtain ⟨a, c, rfl, hc, q⟩ := h
  unfold t_Code_begin
  walk_at "rd"
  walk_at "new"
  exact q p Hn hs np hv
theorem ok_Code_begin (T : Txt K mg) : FnOk P w K mg base CX0 1 T.Code_begin_a T.Code_begin_d ["self"] (sp_Code_begin T) := by
  refine T.Code_begin_f.ok sc_Code_begin (fun vs H Q E h => len_Code_begin T vs H Q E h) (fun cdv A outer s H vs Q E hr h => ⟨t_Code_begin T, PSs.nox ?_, pure_Code_begin T vs H Q E h⟩)
  have hu := hu64 hr
  exact (pss_one (ps_ret (pe_tup (pa_cons pe_str (pa_cons pe_int (pa_cons pe_int pa_nil))))))

def sp_Code_is_full (T : Txt K mg) : Sp := fun vs H Q _ => ∃ a c, ∃ n : Nat, vs = [.ref a, .int n] ∧ CodeAt T H a c ∧ Q (.bl (c.full n)) H
theorem len_Code_is_full (T : Txt K mg) (vs : List V) (H : Hp) (Q : VK) (E : XK) (h : sp_Code_is_full T vs H Q E) : vs.length = 2 := by
  obtain ⟨_, _, _, rfl, _⟩ := h
  rfl
def t_Code_is_full (T : Txt K mg) : TS := (tRet (tAndV (tOp rGtI (tProp T.C_Code (sp_Code_width T) [] E0 (tVar 0)) (tC (.int 0))) (tOp (rEqU K) (tVar 1) (tProp T.C_Code (sp_Code_width T) [] E0 (tVar 0)))))

theorem pure_Code_is_full (T : Txt K mg) (vs : List V) (H : Hp) (Q : VK) (E : XK) (h : sp_Code_is_full T vs H Q E) : t_Code_is_full T { nx := fun _ H' => Q .non H', rt := Q } (start ["self", "column"] vs) H := by
  obtain ⟨a, c, n, rfl, hc, q⟩ := h
  unfold t_Code_is_full
  unfold CodeD.full at q
  walk_at "rd"
  refine r_iteD (fun h => ?_) (fun h => ?_)
  · rw [decide_eq_true (show 0 < c.wd by omega), Bool.true_and] at q
    walk_at "rd"
    by_cases e : n = c.wd
    · rw [decide_eq_true e] at q
      rw [decide_eq_true (show (n : Int) = (c.wd : Int) by omega)]
      exact q
    · rw [decide_eq_false e] at q
      rw [decide_eq_false (show ¬ (n : Int) = (c.wd : Int) by omega)]
      exact q
  · rw [decide_eq_false (show ¬ 0 < c.wd by omega), Bool.false_and] at q
    exact q
theorem ok_Code_is_full (T : Txt K mg) : FnOk P w K mg base CX0 3 T.Code_is_full_a T.Code_is_full_d ["self", "column"] (sp_Code_is_full T) := by
  refine T.Code_is_full_f.ok sc_Code_is_full (fun vs H Q E h => len_Code_is_full T vs H Q E h) (fun cdv A outer s H vs Q E hr h => ⟨t_Code_is_full T, PSs.nox ?_, pure_Code_is_full T vs H Q E h⟩)
  have hu := hu64 hr
  exact (pss_one (ps_ret (pe_and (pe_cmpR op_gt (pe_prop (pv 0) T.C_Code_c T.Code_width_p (ok_Code_width T) (hr.mono (by decide)) T.Code_width_b .nil pass0 rfl) pe_int (nomark _)) (pe_one (pe_cmpR (op_eqU hu) (pv 1) (pe_prop (pv 0) T.C_Code_c T.Code_width_p (ok_Code_width T) (hr.mono (by decide)) T.Code_width_b .nil pass0 rfl) (nomark _))))))

def sp_Code_next_column (T : Txt K mg) : Sp := fun vs H Q _ => ∃ a c, ∃ n : Nat, vs = [.ref a, .int n] ∧ CodeAt T H a c ∧ Q (.int (c.nxt n : Nat)) H
theorem len_Code_next_column (T : Txt K mg) (vs : List V) (H : Hp) (Q : VK) (E : XK) (h : sp_Code_next_column T vs H Q E) : vs.length = 2 := by
  obtain ⟨_, _, _, rfl, _⟩ := h
  rfl
def t_Code_next_column (T : Txt K mg) : TS := (tRet (tIf (tTest (tOp rGtI (tProp T.C_Code (sp_Code_width T) [] E0 (tVar 0)) (tC (.int 0)))) (tOp (rAddU K) (tVar 1) (tC (.int 1))) (tC (.int 0))))

theorem pure_Code_next_column (T : Txt K mg) (vs : List V) (H : Hp) (Q : VK) (E : XK) (h : sp_Code_next_column T vs H Q E) : t_Code_next_column T { nx := fun _ H' => Q .non H', rt := Q } (start ["self", "column"] vs) H := by
  obtain ⟨a, c, n, rfl, hc, q⟩ := h
  unfold t_Code_next_column
  unfold CodeD.nxt at q
  walk_at "rd"
  refine r_iteD (fun h => ?_) (fun h => ?_)
  · rw [if_pos (show 0 < c.wd by omega)] at q
    walk_at "rd"
    exact q
  · rw [if_neg (show ¬ 0 < c.wd by omega)] at q
    walk_at "rd"
    exact q
theorem ok_Code_next_column (T : Txt K mg) : FnOk P w K mg base CX0 3 T.Code_next_column_a T.Code_next_column_d ["self", "column"] (sp_Code_next_column T) := by
  refine T.Code_next_column_f.ok sc_Code_next_column (fun vs H Q E h => len_Code_next_column T vs H Q E h) (fun cdv A outer s H vs Q E hr h => ⟨t_Code_next_column T, PSs.nox ?_, pure_Code_next_column T vs H Q E h⟩)
  have hu := hu64 hr
  exact (pss_one (ps_ret (pe_ifExp (pt_cmpR op_gt (pe_prop (pv 0) T.C_Code_c T.Code_width_p (ok_Code_width T) (hr.mono (by decide)) T.Code_width_b .nil pass0 rfl) pe_int (nomark _)) (pe_op op_addU (pv 1) pe_int) pe_int)))

def tx (l : List Nat) : Str := ⟨l.toArray⟩
theorem tx_len (l : List Nat) : (tx l).length = l.length := by
  show l.toArray.size = _
  simp
theorem tx_list (l : List Nat) : (tx l).cps.toList = l := by simp [tx]
theorem tx_app (a b : List Nat) : tx a ++ tx b = tx (a ++ b) := by
  show (⟨a.toArray ++ b.toArray⟩ : Str) = ⟨(a ++ b).toArray⟩
  simp
theorem nl_tx : Str.ofString "\n" = tx [10] := rfl
theorem e_tx : Str.ofString "" = tx [] := rfl
def sp_Code_placed (T : Txt K mg) : Sp := fun vs H Q _ => ∃ a c, ∃ n s : Nat, vs = [.ref a, .int n, .str (tx [s])] ∧ CodeAt T H a c ∧
  ∀ p H', Same H H' → H p = none → H' p = some (.tup [.str (tx (c.plc n s).1), .int ((c.plc n s).2 : Nat)]) → Q (.ref p) H'
theorem len_Code_placed (T : Txt K mg) (vs : List V) (H : Hp) (Q : VK) (E : XK) (h : sp_Code_placed T vs H Q E) : vs.length = 3 := by
  obtain ⟨_, _, _, _, rfl, _⟩ := h
  rfl
def t_Code_placed (T : Txt K mg) : TS := (tSeq (tIfS (tB (tMeth T.C_Code "is_full" (sp_Code_is_full T) [] E0 (tVar 0) (tCons (tVar 1) tNil))) (tRet (tTup (tCons (tOp (rAddU K) (tC (.str (Str.ofString "\n"))) (tVar 2)) (tCons (tC (.int 1)) tNil)))) tNext)
    (tRet (tTup (tCons (tVar 2) (tCons (tMeth T.C_Code "next_column" (sp_Code_next_column T) [] E0 (tVar 0) (tCons (tVar 1) tNil)) tNil)))))

theorem pure_Code_placed (T : Txt K mg) (vs : List V) (H : Hp) (Q : VK) (E : XK) (h : sp_Code_placed T vs H Q E) : t_Code_placed T { nx := fun _ H' => Q .non H', rt := Q } (start ["self", "column", "sign"] vs) H := by
  obtain ⟨a, c, n, s, rfl, hc, q⟩ := h
  unfold t_Code_placed
  unfold CodeD.plc at q
  walk_at "rd"
  refine ⟨a, c, n, rfl, hc, ?_⟩
  walk_at "rd"
  refine r_iteB (fun h => ?_) (fun h => ?_)
  · rw [if_pos h] at q
    walk_at "rd"
    refine r_addUS (by rw [nl_tx, tx_len, tx_len]; show 2 ≤ sizeLine; decide) ?_
    rw [nl_tx, tx_app]
    walk_at "rd"
    walk_at "new"
    exact q p Hn hs np hv
  · rw [if_neg (by rw [h]; exact Bool.false_ne_true)] at q
    walk_at "rd"
    refine ⟨a, c, n, rfl, hc, ?_⟩
    walk_at "rd"
    walk_at "new"
    exact q p Hn hs np hv
theorem ok_Code_placed (T : Txt K mg) : FnOk P w K mg base CX0 4 T.Code_placed_a T.Code_placed_d ["self", "column", "sign"] (sp_Code_placed T) := by
  refine T.Code_placed_f.ok sc_Code_placed (fun vs H Q E h => len_Code_placed T vs H Q E h) (fun cdv A outer s H vs Q E hr h => ⟨t_Code_placed T, PSs.nox ?_, pure_Code_placed T vs H Q E h⟩)
  have hu := hu64 hr
  exact (pss_cons (ps_if (pt_val (pe_meth (pv 0) T.C_Code_c T.Code_is_full_m (ok_Code_is_full T) (hr.mono (by decide)) T.Code_is_full_b .nil pass0 (pa_cons (pv 1) pa_nil))) (pss_one (ps_ret (pe_tup (pa_cons (pe_op op_addU (pe_glob (by rfl) T.k_NEWLINE_g T.k_NEWLINE_r) (pv 2)) (pa_cons pe_int pa_nil))))) pss_nil)
      (pss_one (ps_ret (pe_tup (pa_cons (pv 2) (pa_cons (pe_meth (pv 0) T.C_Code_c T.Code_next_column_m (ok_Code_next_column T) (hr.mono (by decide)) T.Code_next_column_b .nil pass0 (pa_cons (pv 1) pa_nil)) pa_nil))))))


end
section
variable {w : World} {K : PySem.W.Frag} {mg : Str → Option Value} {base : Heap}
local macro_rules | `(tactic| walk_at "hc") => `(tactic| first
  | assumption
  | ((refine CodeAt.same (H := ?xH) ?xb ?xa); (case xa => assumption); (case xb => walk_at "hc")))
local macro_rules | `(tactic| walk_at "rd0") => `(tactic| first
  | ((with_reducible refine r_get (a := ?xa) (c := ?xc) ?x1 ?x2 ?_); (case x1 => rfl); (case x2 => walk_at "hc"))
  | ((with_reducible refine r_methC (a := ?xa) (c := ?xc) ?x1 ?x2 ?x3 ?_); (case x1 => rfl); (case x2 => walk_at "hc"); (case x3 => (intro _ _ _; rfl)))
  | (with_reducible refine r_fmtB ?_)
  | (with_reducible refine r_dget ?_)
  | (with_reducible refine r_m0 ?_)
  | (with_reducible refine r_makeK ?_)
  | (with_reducible refine r_cval ?_)
  | (with_reducible refine r_sfld ?_)
  | (with_reducible refine r_isiI ?_)
  | (with_reducible refine r_isiIB ?_)
  | (with_reducible refine r_isiS ?_)
  | (with_reducible refine r_inID ?_))

/-! ### what a byte writes -/
theorem sIx_le_nat {n d k : Nat} {i : Int} (hi : i = (k : Int)) (h : k ≤ n) : HT.sIx n d (some i) = k := by
  rw [hi, HT.sIx_nat]
  omega
theorem cut_take {l : List Nat} {k : Nat} (h : k ≤ l.length) : cutS (tx l) none (some (k : Int)) = tx (l.take k) := by
  unfold cutS
  rw [tx_len, HT.sIx_none, sIx_le_nat rfl h, tx_list]
  rfl
theorem cut_drop {l : List Nat} {k : Nat} (h : k ≤ l.length) : cutS (tx l) (some (k : Int)) none = tx (l.drop k) := by
  unfold cutS
  rw [tx_len, HT.sIx_none, sIx_le_nat rfl h, tx_list]
  show tx ((l.drop k).take (l.length - k)) = _
  rw [List.take_of_length_le (by rw [List.length_drop]; exact Nat.le_refl _)]
def b8 (n : Nat) : List Nat := [48 + n / 128 % 2, 48 + n / 64 % 2, 48 + n / 32 % 2, 48 + n / 16 % 2, 48 + n / 8 % 2, 48 + n / 4 % 2, 48 + n / 2 % 2, 48 + n % 2]
theorem bin8_tx (n : Nat) : bin8 n = tx (b8 n) := rfl
def Bits (l : List Nat) : Prop := ∀ c ∈ l, Bn.IsBit c
theorem b8_bits (n : Nat) : Bits (b8 n) := by
  have h : ∀ m : Nat, Bn.IsBit (48 + m % 2) := fun m => by unfold Bn.IsBit; omega
  intro c hc
  simp only [b8, List.mem_cons, List.not_mem_nil, or_false] at hc
  rcases hc with rfl | rfl | rfl | rfl | rfl | rfl | rfl | rfl <;> exact h _
theorem Bits.app {a b : List Nat} (h : Bits a) (k : Bits b) : Bits (a ++ b) := fun c hc => (List.mem_append.mp hc).elim (h c) (k c)
theorem Bits.take {a : List Nat} (h : Bits a) (k : Nat) : Bits (a.take k) := fun c hc => h c (List.mem_of_mem_take hc)
theorem Bits.drop {a : List Nat} (h : Bits a) (k : Nat) : Bits (a.drop k) := fun c hc => h c (List.mem_of_mem_drop hc)
theorem bin_go : ∀ (l : List Nat) (a : Nat), Bits l → l.foldl (fun a c => a * 2 + (c - 48)) a < (a + 1) * 2 ^ l.length
  | [], a, _ => by simp
  | x :: l, a, h => by
    have hx : x - 48 ≤ 1 := by
      have := h x (List.mem_cons_self ..)
      unfold Bn.IsBit at this
      omega
    have ih := bin_go l (a * 2 + (x - 48)) fun c hc => h c (List.mem_cons_of_mem _ hc)
    rw [List.foldl_cons, List.length_cons, Nat.pow_succ]
    refine Nat.lt_of_lt_of_le ih ?_
    have : a * 2 + (x - 48) + 1 ≤ (a + 1) * 2 := by omega
    calc (a * 2 + (x - 48) + 1) * 2 ^ l.length ≤ ((a + 1) * 2) * 2 ^ l.length := Nat.mul_le_mul_right _ this
      _ = (a + 1) * (2 ^ l.length * 2) := by rw [Nat.mul_assoc, Nat.mul_comm 2]
theorem bin_lt {l : List Nat} (h : Bits l) : Bn.binNum l < 2 ^ l.length := by
  have := bin_go l 0 h
  rw [Nat.zero_add, Nat.one_mul] at this
  exact this
def sgnOf (c : CodeD) (d : Nat) : Nat := c.sg.cps.toList.getD d 0
def em (c : CodeD) (b : List Nat) : List Nat := if h : 1 ≤ c.sb ∧ c.sb ≤ b.length then sgnOf c (Bn.binNum (b.take c.sb)) :: em c (b.drop c.sb) else []
termination_by b.length
decreasing_by rw [List.length_drop]; omega
def rs (c : CodeD) (b : List Nat) : List Nat := if h : 1 ≤ c.sb ∧ c.sb ≤ b.length then rs c (b.drop c.sb) else b
termination_by b.length
decreasing_by rw [List.length_drop]; omega
theorem em_on {c : CodeD} {b : List Nat} (h1 : 1 ≤ c.sb) (h2 : c.sb ≤ b.length) : em c b = sgnOf c (Bn.binNum (b.take c.sb)) :: em c (b.drop c.sb) := by
  rw [em, dif_pos ⟨h1, h2⟩]
theorem em_off {c : CodeD} {b : List Nat} (h2 : ¬ c.sb ≤ b.length) : em c b = [] := by
  rw [em, dif_neg fun z => h2 z.2]
theorem rs_on {c : CodeD} {b : List Nat} (h1 : 1 ≤ c.sb) (h2 : c.sb ≤ b.length) : rs c b = rs c (b.drop c.sb) := by
  rw [rs, dif_pos ⟨h1, h2⟩]
theorem rs_off {c : CodeD} {b : List Nat} (h2 : ¬ c.sb ≤ b.length) : rs c b = b := by
  rw [rs, dif_neg fun z => h2 z.2]
theorem em_len (c : CodeD) : ∀ (n : Nat) (b : List Nat), b.length ≤ n → (em c b).length ≤ b.length
  | 0, b, h => by
    by_cases e : 1 ≤ c.sb ∧ c.sb ≤ b.length
    · omega
    · rw [em, dif_neg e]; exact Nat.zero_le _
  | n + 1, b, h => by
    by_cases e : 1 ≤ c.sb ∧ c.sb ≤ b.length
    · rw [em_on e.1 e.2, List.length_cons]
      have := em_len c n (b.drop c.sb) (by rw [List.length_drop]; omega)
      rw [List.length_drop] at this
      omega
    · rw [em, dif_neg e]; exact Nat.zero_le _
theorem rs_sub (c : CodeD) : ∀ (n : Nat) (b : List Nat), b.length ≤ n → 1 ≤ c.sb → (rs c b).length < c.sb ∧ ∃ k, rs c b = b.drop k
  | 0, b, h, h1 => by
    have e : ¬ c.sb ≤ b.length := by omega
    rw [rs_off e]
    exact ⟨by omega, 0, rfl⟩
  | n + 1, b, h, h1 => by
    by_cases e : c.sb ≤ b.length
    · rw [rs_on h1 e]
      obtain ⟨i1, k, i2⟩ := rs_sub c n (b.drop c.sb) (by rw [List.length_drop]; omega) h1
      exact ⟨i1, c.sb + k, by rw [i2, List.drop_drop]⟩
    · rw [rs_off e]
      exact ⟨by omega, 0, rfl⟩
def plcs (c : CodeD) : Nat → List Nat → List Nat × Nat
  | col, [] => ([], col)
  | col, s :: r => ((c.plc col s).1 ++ (plcs c (c.plc col s).2 r).1, (plcs c (c.plc col s).2 r).2)
theorem plc_len (c : CodeD) (col s : Nat) : (c.plc col s).1.length ≤ 2 := by
  unfold CodeD.plc
  split <;> simp
theorem plcs_len (c : CodeD) : ∀ (l : List Nat) (col : Nat), (plcs c col l).1.length ≤ 2 * l.length
  | [], _ => Nat.le_refl _
  | s :: r, col => by
    have := plcs_len c r (c.plc col s).2
    have := plc_len c col s
    simp only [plcs, List.length_append, List.length_cons]
    omega
def snN (g sn : Nat) : Nat → Nat
  | 0 => sn
  | n + 1 => snN g ((sn + 1) % g) n
/-- the part, the column behind -/
def wP (c : CodeD) (b : List Nat) (col : Nat) : List Nat × Nat :=
  if rs c b ≠ [] ∧ c.full (plcs c col (em c b)).2 = true then ((plcs c col (em c b)).1 ++ [10], 0) else plcs c col (em c b)
theorem grp_pos {n : Nat} (h1 : 1 ≤ n) (h6 : n ≤ 6) : 0 < grp n := by
  have e : n = 1 ∨ n = 2 ∨ n = 3 ∨ n = 4 ∨ n = 5 ∨ n = 6 := by omega
  rcases e with rfl | rfl | rfl | rfl | rfl | rfl <;> decide
theorem tx_inj {a b : List Nat} (h : tx a = tx b) : a = b := by
  have := congrArg (fun s : Str => s.cps.toList) h
  simpa [tx_list] using this
def StAt (H : Hp) (st : Addr) (b : List Nat) (sn col : Nat) : Prop := H st = some (.tup [.str (tx b), .int sn, .int col])
def sp_Code_write (T : Txt K mg) : Sp := fun vs H Q _ => ∃ a c st, ∃ b : List Nat, ∃ sn col n : Nat, vs = [.ref a, .ref st, .int n] ∧ CodeAt T H a c ∧ StAt H st b sn col ∧ Bits b ∧ b.length < c.sb ∧ n < 256 ∧
  ∀ p s' H', Same H H' → H p = none → H s' = none → H' p = some (.tup [.str (tx (wP c (b ++ b8 n) col).1), .ref s']) → StAt H' s' (rs c (b ++ b8 n)) (snN (grp c.sb) sn (em c (b ++ b8 n)).length) (wP c (b ++ b8 n) col).2 → Q (.ref p) H'
theorem len_Code_write (T : Txt K mg) (vs : List V) (H : Hp) (Q : VK) (E : XK) (h : sp_Code_write T vs H Q E) : vs.length = 3 := by
  obtain ⟨_, _, _, _, _, _, _, rfl, _⟩ := h
  rfl
theorem smallS {n : Nat} (h : n ≤ 100000) : n ≤ sizeLine := small_line (by omega)
def t_Code_write (T : Txt K mg) : TS := (tSeq (tAsg (tVar 1) (gTup K 3 (gCons (gName 3) (gCons (gName 4) (gCons (gName 5) gNil)))))
    (tSeq (tAug 3 (tFmtB bin8 (tVar 2)) (rIaddU K))
    (tSeq (tAsg (tC (.str (Str.ofString ""))) (gName 6))
    (tSeq (tWhile (tTest (tOp rGeI (tCB (rLenU K) (tCons (tVar 3) tNil)) (tProp T.C_Code (sp_Code_bits T) [] E0 (tVar 0)))) (tSeq (tAsg (tMeth T.C_Code "placed" (sp_Code_placed T) [] E0 (tVar 0) (tCons (tVar 5) (tCons (tOp (rIx K) (tProp T.C_Code (sp_Code_signs T) [] E0 (tVar 0)) (tCB rIntBin (tCons (tSl (rSlU K) (tVar 3) tNoPart (tPart (tProp T.C_Code (sp_Code_bits T) [] E0 (tVar 0)))) (tCons (tC (.int 2)) tNil)))) tNil))) (gTup K 2 (gCons (gName 7) (gCons (gName 5) gNil))))
    (tSeq (tAug 6 (tVar 7) (rIaddU K))
    (tSeq (tAsg (tSl (rSlU K) (tVar 3) (tPart (tProp T.C_Code (sp_Code_bits T) [] E0 (tVar 0))) tNoPart) (gName 3))
    (tAsg (tOp rModI (tOp (rAddU K) (tVar 4) (tC (.int 1))) (tProp T.C_Code (sp_Code_group T) [] E0 (tVar 0))) (gName 4))))))
    (tSeq (tIfS (tAnd (tTest (tOp (rNeU K) (tVar 3) (tC (.str (Str.ofString ""))))) (tB (tMeth T.C_Code "is_full" (sp_Code_is_full T) [] E0 (tVar 0) (tCons (tVar 5) tNil)))) (tPar 6 5 (tCons (tOp (rAddU K) (tVar 6) (tC (.str (Str.ofString "\n")))) (tCons (tC (.int 0)) tNil))) tNext)
    (tRet (tTup (tCons (tVar 6) (tCons (tTup (tCons (tVar 3) (tCons (tVar 4) (tCons (tVar 5) tNil)))) tNil)))))))))

theorem pure_Code_write (T : Txt K mg) (vs : List V) (H : Hp) (Q : VK) (E : XK) (h : sp_Code_write T vs H Q E) : t_Code_write T { nx := fun _ H' => Q .non H', rt := Q } (start ["self", "state", "byte", "bits", "signs", "column", "part", "more"] vs) H := by
  obtain ⟨a, c, st, b0, sn, col, n, rfl, hc, hst, hb0, hl0, hn, q⟩ := h
  have ok := hc.1
  have hb1 := ok.b1
  have hb6 := ok.b6
  have gp := grp_pos hb1 hb6
  unfold StAt at hst q
  unfold t_Code_write
  walk_at "rd"
  refine ⟨n, rfl, hn, ?_⟩
  rw [bin8_tx]
  have l8 : (b8 n).length = 8 := rfl
  refine r_iaddS (smallS (by rw [tx_len, tx_len, l8]; omega)) ?_
  rw [tx_app]
  walk_at "rd"
  have hbb : Bits (b0 ++ b8 n) := hb0.app (b8_bits n)
  have hbl : (b0 ++ b8 n).length ≤ 13 := by rw [List.length_append, l8]; omega
  generalize hB : b0 ++ b8 n = B at hbb hbl q
  have P0l : (plcs c col (em c B)).1.length ≤ 26 := by
    have := plcs_len c (em c B) col
    have := em_len c _ B (Nat.le_refl _)
    omega
  refine r_while (fun σ G => ∃ b s col' part v7, σ = [some (.ref a), some (.ref st), some (.int (n : Nat)), some (.str (tx b)), some (.int (s : Nat)), some (.int (col' : Nat)), some (.str (tx part)), v7] ∧ Same H G ∧ Bits b ∧ b.length ≤ 13 ∧
      part ++ (plcs c col' (em c b)).1 = (plcs c col (em c B)).1 ∧ (plcs c col' (em c b)).2 = (plcs c col (em c B)).2 ∧ rs c b = rs c B ∧ snN (grp c.sb) s (em c b).length = snN (grp c.sb) sn (em c B).length)
    (fun σ _ => match σ with | [_, _, _, some (.str z), _, _, _, _] => z.length | _ => 0)
    (fun σ G => ∃ v7, σ = [some (.ref a), some (.ref st), some (.int (n : Nat)), some (.str (tx (rs c B))), some (.int (snN (grp c.sb) sn (em c B).length : Nat)), some (.int ((plcs c col (em c B)).2 : Nat)), some (.str (tx (plcs c col (em c B)).1)), v7] ∧ Same H G)
    ⟨B, sn, col, [], none, rfl, Same.refl H, hbb, hbl, rfl, rfl, rfl, rfl⟩ ?_ ?_
  · rintro σ G ⟨v7, rfl, sG⟩
    have hc1 := hc.same sG
    walk_at "rx"
    refine r_seqC (fun σ G' => ∃ v7, σ = [some (.ref a), some (.ref st), some (.int (n : Nat)), some (.str (tx (rs c B))), some (.int (snN (grp c.sb) sn (em c B).length : Nat)), some (.int ((wP c B col).2 : Nat)), some (.str (tx (wP c B col).1)), v7] ∧ Same H G') ?_ fun N tail => ?_
    · rintro σ G' ⟨v7, rfl, sG'⟩
      walk_at "rd"
      walk_at "new"
      walk_at "rd"
      refine And.intro (by show 2 ≤ sizeLine; decide) ?_
      intro p2 np2
      generalize hg2 : upd _ p2 _ = H2
      have hs2 := same_of hg2 np2
      have hv2 := at_of hg2
      clear hg2
      walk_at "rd"
      exact q p2 p H2 (sG'.trans (hs.trans hs2)) ((sG'.trans hs).free np2) (sG'.free np) hv2 (hs2 _ _ hv)
    · unfold wP at tail
      walk_at "rx"
      have en : (tx (rs c B) = Str.ofString "") ↔ rs c B = [] := by
        rw [e_tx]
        exact ⟨tx_inj, fun z => by rw [z]⟩
      refine r_iteND (fun h => ?_) (fun h => ?_)
      · have hne : rs c B ≠ [] := fun z => h (en.mpr z)
        walk_at "rx"
        refine ⟨a, c, _, rfl, hc1, ?_⟩
        walk_at "rx"
        refine r_iteB (fun hf => ?_) (fun hf => ?_)
        · rw [if_pos ⟨hne, hf⟩] at tail
          walk_at "rx"
          refine r_addUS (smallS (by rw [tx_len, nl_tx, tx_len]; simp only [List.length_cons, List.length_nil]; omega)) ?_
          rw [nl_tx, tx_app]
          walk_at "rx"
          exact tail _ _ ⟨_, rfl, sG⟩
        · rw [if_neg (fun z => by rw [z.2] at hf; cases hf)] at tail
          walk_at "rx"
          exact tail _ _ ⟨_, rfl, sG⟩
      · rw [if_neg (fun z => z.1 (en.mp h))] at tail
        walk_at "rx"
        exact tail _ _ ⟨_, rfl, sG⟩
  · rintro σ G ⟨b, s, col', part, v7, rfl, sG, hb, hl, e1, e2, e3, e4⟩ ex
    walk_at "rd"
    refine r_lenUS (smallS (by rw [tx_len]; omega)) ?_
    walk_at "rd"
    have hc1 := hc.same sG
    refine r_iteD (fun h => ?_) (fun h => ?_)
    · have h2 : c.sb ≤ b.length := by rw [tx_len] at h; omega
      rw [em_on hb1 h2] at e1 e2 e4
      rw [rs_on hb1 h2] at e3
      simp only [plcs, List.length_cons, snN] at e1 e2 e4
      have hbt : Bits (b.take c.sb) := hb.take _
      have lt : (b.take c.sb).length = c.sb := by rw [List.length_take]; omega
      have dlt : Bn.binNum (b.take c.sb) < c.sg.length := by
        have := bin_lt hbt
        rw [lt] at this
        rw [ok.ln]
        exact this
      refine r_turn ?_
      walk_at "rd"
      refine r_slUS (smallS (by rw [tx_len]; omega)) ?_
      rw [cut_take h2]
      walk_at "rd"
      refine r_intBin (by rw [tx_list]; intro z; rw [z] at lt; simp at lt; omega) (by rw [tx_len]; omega) (by rw [tx_list]; exact hbt) ?_
      rw [tx_list]
      have gch : atI c.sg.cps.toList ((Bn.binNum (b.take c.sb) : Nat) : Int) = some (sgnOf c (Bn.binNum (b.take c.sb))) := by
        have dlt' : Bn.binNum (b.take c.sb) < c.sg.cps.toList.length := by rw [Array.length_toList]; exact dlt
        refine atI_nat ?_
        unfold sgnOf
        rw [List.getElem?_eq_getElem dlt', List.getD_eq_getElem?_getD, List.getElem?_eq_getElem dlt']
        rfl
      have lsg : c.sg.length ≤ sizeLine := smallS (by
        rw [ok.ln]
        exact Nat.le_trans (Nat.pow_le_pow_right (by decide) hb6) (by decide))
      refine r_ixS lsg gch ?_
      walk_at "rd"
      refine ⟨a, c, col', sgnOf c (Bn.binNum (b.take c.sb)), rfl, hc1, fun p H' s1 np hv => ?_⟩
      walk_at "rd"
      refine r_iaddS (smallS (by
        rw [tx_len, tx_len]
        have := congrArg List.length e1
        simp only [List.length_append] at this
        omega)) ?_
      rw [tx_app]
      walk_at "rd"
      refine r_slUS (smallS (by rw [tx_len]; omega)) ?_
      rw [cut_drop h2]
      walk_at "rd"
      have ef : ((s : Int) + 1).fmod (grp c.sb : Int) = (((s + 1) % grp c.sb : Nat) : Int) := by
        rw [Int.fmod_eq_emod_of_nonneg _ (Int.natCast_nonneg _), Int.natCast_emod]
        rfl
      rw [ef]
      refine ⟨⟨b.drop c.sb, (s + 1) % grp c.sb, _, part ++ _, _, rfl, sG.trans s1, hb.drop _, by rw [List.length_drop]; omega, by rw [List.append_assoc]; exact e1, e2, e3, e4⟩, ?_⟩
      show (tx (b.drop c.sb)).length < (tx b).length
      rw [tx_len, tx_len, List.length_drop]
      omega
    · have h2 : ¬ c.sb ≤ b.length := by rw [tx_len] at h; omega
      rw [em_off h2] at e1 e2 e4
      rw [rs_off h2] at e3
      simp only [plcs, List.append_nil, List.length_nil, snN] at e1 e2 e4
      subst e1 e2 e3 e4
      exact ex _ _ ⟨_, rfl, sG⟩
theorem ok_Code_write (T : Txt K mg) : FnOk P w K mg base CX0 5 T.Code_write_a T.Code_write_d ["self", "state", "byte"] (sp_Code_write T) := by
  refine T.Code_write_f.ok sc_Code_write (fun vs H Q E h => len_Code_write T vs H Q E h) (fun cdv A outer s H vs Q E hr h => ⟨t_Code_write T, PSs.nox ?_, pure_Code_write T vs H Q E h⟩)
  have hu := hu64 hr
  exact (pss_cons (ps_asg (pv 1) (pg_tup (by rfl) (pgs_cons (pg_name (i := 3) sc_Code_write.nd rfl (.inl rfl)) (pgs_cons (pg_name (i := 4) sc_Code_write.nd rfl (.inl rfl)) (pgs_cons (pg_name (i := 5) sc_Code_write.nd rfl (.inl rfl)) pgs_nil)))))
      (pss_cons (ps_aug (i := 3) sc_Code_write.nd rfl (.inl rfl) (pe_joined1 (pe_fmtB (pv 2) (by decide) (by decide) (fun n hn t u => fmt08b hn t u))) ip_addU)
      (pss_cons (ps_set (i := 6) sc_Code_write.nd rfl (.inl rfl) pe_str)
      (pss_cons (ps_while PassesOwn.never (pt_cmpR op_ge (pe_callB c_lenU (by rfl) T.n_len (by decide +kernel) (pa_cons (pv 3) pa_nil)) (pe_prop (pv 0) T.C_Code_c T.Code_bits_p (ok_Code_bits T) (hr.mono (by decide)) T.Code_bits_b .nil pass0 rfl) (nomark _)) (pss_cons (ps_asg (pe_meth (pv 0) T.C_Code_c T.Code_placed_m (ok_Code_placed T) (hr.mono (by decide)) T.Code_placed_b .nil pass0 (pa_cons (pv 5) (pa_cons (pe_ix ix_seq (pe_prop (pv 0) T.C_Code_c T.Code_signs_p (ok_Code_signs T) (hr.mono (by decide)) T.Code_signs_b .nil pass0 rfl) (pe_callTy call_int_bin (by rfl) T.n_int (by decide +kernel) (pa_cons (pe_slice sl_U (pv 3) po_none (po_some (pe_prop (pv 0) T.C_Code_c T.Code_bits_p (ok_Code_bits T) (hr.mono (by decide)) T.Code_bits_b .nil pass0 rfl))) (pa_cons pe_int pa_nil))) (fun _ _ => rfl)) pa_nil))) (pg_tup (by rfl) (pgs_cons (pg_name (i := 7) sc_Code_write.nd rfl (.inl rfl)) (pgs_cons (pg_name (i := 5) sc_Code_write.nd rfl (.inl rfl)) pgs_nil))))
      (pss_cons (ps_aug (i := 6) sc_Code_write.nd rfl (.inl rfl) (pv 7) ip_addU)
      (pss_cons (ps_set (i := 3) sc_Code_write.nd rfl (.inl rfl) (pe_slice sl_U (pv 3) (po_some (pe_prop (pv 0) T.C_Code_c T.Code_bits_p (ok_Code_bits T) (hr.mono (by decide)) T.Code_bits_b .nil pass0 rfl)) po_none))
      (pss_one (ps_set (i := 4) sc_Code_write.nd rfl (.inl rfl) (pe_op op_modN (pe_op op_addU (pv 4) pe_int) (pe_prop (pv 0) T.C_Code_c T.Code_group_p (ok_Code_group T) (hr.mono (by decide)) T.Code_group_b .nil pass0 rfl))))))))
      (pss_cons (ps_if (PW.pt (pw_and (pt_cmpR (op_neU hu) (pv 3) pe_str (nomark _)) (pw_and1 (pt_val (pe_meth (pv 0) T.C_Code_c T.Code_is_full_m (ok_Code_is_full T) (hr.mono (by decide)) T.Code_is_full_b .nil pass0 (pa_cons (pv 5) pa_nil)))))) (pss_one (ps_par (i := 6) (j := 5) (by rfl) sc_Code_write.nd rfl rfl (by decide) rfl rfl (pa_cons (pe_op op_addU (pv 6) (pe_glob (by rfl) T.k_NEWLINE_g T.k_NEWLINE_r)) (pa_cons pe_int pa_nil)) (by rfl))) pss_nil)
      (pss_one (ps_ret (pe_tup (pa_cons (pv 6) (pa_cons (pe_tup (pa_cons (pv 3) (pa_cons (pv 4) (pa_cons (pv 5) pa_nil)))) pa_nil))))))))))


end
section
variable {w : World} {K : PySem.W.Frag} {mg : Str → Option Value} {base : Heap}
local macro_rules | `(tactic| walk_at "hc") => `(tactic| first
  | assumption
  | ((refine CodeAt.same (H := ?xH) ?xb ?xa); (case xa => assumption); (case xb => walk_at "hc")))
local macro_rules | `(tactic| walk_at "rd0") => `(tactic| first
  | ((with_reducible refine r_get (a := ?xa) (c := ?xc) ?x1 ?x2 ?_); (case x1 => rfl); (case x2 => walk_at "hc"))
  | ((with_reducible refine r_methC (a := ?xa) (c := ?xc) ?x1 ?x2 ?x3 ?_); (case x1 => rfl); (case x2 => walk_at "hc"); (case x3 => (intro _ _ _; rfl)))
  | (with_reducible refine r_fmtB ?_)
  | (with_reducible refine r_dget ?_)
  | (with_reducible refine r_m0 ?_)
  | (with_reducible refine r_makeK ?_)
  | (with_reducible refine r_cval ?_)
  | (with_reducible refine r_sfld ?_)
  | (with_reducible refine r_isiI ?_)
  | (with_reducible refine r_isiIB ?_)
  | (with_reducible refine r_isiS ?_)
  | (with_reducible refine r_inID ?_))

/-! ### how a text ends; whole texts -/
def lastS (c : CodeD) (b : List Nat) : Nat := sgnOf c (Bn.binNum (b ++ List.replicate (c.sb - b.length) 48))
def miss (c : CodeD) (sn : Nat) : Nat := if c.pd.cps.toList = [] then 0 else grp c.sb - 1 - sn
def padL (c : CodeD) (sn : Nat) : List Nat := List.replicate (miss c sn) (c.pd.cps.toList.getD 0 0)
/-- what the ending adds, without rows -/
def endS (c : CodeD) (b : List Nat) (sn : Nat) : List Nat := if b = [] then [] else lastS c b :: padL c sn
def sp_Code_close (T : Txt K mg) : Sp := fun vs H Q _ => ∃ a c st, ∃ b : List Nat, ∃ sn col : Nat, vs = [.ref a, .ref st] ∧ CodeAt T H a c ∧ StAt H st b sn col ∧ Bits b ∧ b.length < c.sb ∧ sn < grp c.sb ∧
  ∀ H', Same H H' → Q (.str (tx (plcs c col (endS c b sn)).1)) H'
theorem len_Code_close (T : Txt K mg) (vs : List V) (H : Hp) (Q : VK) (E : XK) (h : sp_Code_close T vs H Q E) : vs.length = 2 := by
  obtain ⟨_, _, _, _, _, _, rfl, _⟩ := h
  rfl
theorem plcs_app (c : CodeD) : ∀ (l m : List Nat) (col : Nat), plcs c col (l ++ m) = ((plcs c col l).1 ++ (plcs c (plcs c col l).2 m).1, (plcs c (plcs c col l).2 m).2)
  | [], m, col => rfl
  | s :: r, m, col => by
    simp only [List.cons_append, plcs, plcs_app c r m, List.append_assoc]
theorem tyS {z : Str} {H : Hp} : tyV K "str" (V.str z) H := rfl
theorem tx_of (z : Str) : z = tx z.cps.toList := by
  show z = ⟨z.cps.toList.toArray⟩
  simp
theorem pad_eq {c : CodeD} (ok : c.Ok) (h : c.pd.cps.toList ≠ []) : c.pd = tx [c.pd.cps.toList.getD 0 0] := by
  have hl : c.pd.cps.toList.length ≤ 1 := by rw [Array.length_toList]; exact ok.pl
  have e := tx_of c.pd
  generalize c.pd.cps.toList = l at h hl e ⊢
  match l, h, hl with
  | [x], _, _ => exact e
  | _ :: _ :: _, _, hl => exact absurd hl (by rw [List.length_cons, List.length_cons]; omega)
def t_Code_close (T : Txt K mg) : TS := (tSeq (tAsg (tVar 1) (gTup K 3 (gCons (gName 2) (gCons (gName 3) (gCons (gName 4) gNil)))))
    (tSeq (tIfS (tTest (tOp (rEqU K) (tVar 2) (tC (.str (Str.ofString ""))))) (tRet (tC (.str (Str.ofString "")))) tNext)
    (tSeq (tAsg (tOp (rIx K) (tProp T.C_Code (sp_Code_signs T) [] E0 (tVar 0)) (tCB rIntBin (tCons (tBM K "str" rLjust (tVar 2) (tCons (tProp T.C_Code (sp_Code_bits T) [] E0 (tVar 0)) (tCons (tC (.str (Str.ofString "0"))) tNil))) (tCons (tC (.int 2)) tNil)))) (gName 5))
    (tSeq (tAsg (tMeth T.C_Code "placed" (sp_Code_placed T) [] E0 (tVar 0) (tCons (tVar 4) (tCons (tVar 5) tNil))) (gTup K 2 (gCons (gName 6) (gCons (gName 4) gNil))))
    (tSeq (tAsg (tIf (tTest (tOp (rNeU K) (tProp T.C_Code (sp_Code_pad T) [] E0 (tVar 0)) (tC (.str (Str.ofString ""))))) (tOp rSubI (tOp rSubI (tProp T.C_Code (sp_Code_group T) [] E0 (tVar 0)) (tC (.int 1))) (tVar 3)) (tC (.int 0))) (gName 7))
    (tSeq (tFor (iRng1 (tCons (tVar 7) tNil)) (gName 8) (tSeq (tAsg (tMeth T.C_Code "placed" (sp_Code_placed T) [] E0 (tVar 0) (tCons (tVar 4) (tCons (tProp T.C_Code (sp_Code_pad T) [] E0 (tVar 0)) tNil))) (gTup K 2 (gCons (gName 9) (gCons (gName 4) gNil))))
    (tAug 6 (tVar 9) (rIaddU K))))
    (tRet (tVar 6))))))))

theorem pure_Code_close (T : Txt K mg) (vs : List V) (H : Hp) (Q : VK) (E : XK) (h : sp_Code_close T vs H Q E) : t_Code_close T { nx := fun _ H' => Q .non H', rt := Q } (start ["self", "state", "bits", "signs", "column", "last", "rest", "missing", "turn", "more"] vs) H := by
  obtain ⟨a, c, st, b, sn, col, rfl, hc, hst, hb, hl, hsn, q⟩ := h
  have ok := hc.1
  have hb1 := ok.b1
  have hb6 := ok.b6
  have gp := grp_pos hb1 hb6
  unfold StAt at hst
  unfold t_Code_close
  walk_at "rd"
  have en : (tx b = Str.ofString "") ↔ b = [] := by
    rw [e_tx]
    exact ⟨tx_inj, fun z => by rw [z]⟩
  refine r_iteD (fun h => ?_) (fun h => ?_)
  · have hz := en.mp h
    walk_at "rd"
    have q' := q H (Same.refl H)
    unfold endS at q'
    rw [if_pos hz] at q'
    exact q'
  · have hz : b ≠ [] := fun z => h (en.mpr z)
    unfold endS at q
    rw [if_neg hz] at q
    walk_at "rd"
    refine ⟨tyS, ?_⟩
    walk_at "rd"
    have pk : PadOk (c.sb : Int) = true := by
      have e : c.sb = 1 ∨ c.sb = 2 ∨ c.sb = 3 ∨ c.sb = 4 ∨ c.sb = 5 ∨ c.sb = 6 := by omega
      rcases e with e | e | e | e | e | e <;> rw [e] <;> rfl
    refine ⟨tx b, c.sb, 48, rfl, rfl, pk, ?_⟩
    have ef : fillR (tx b) (c.sb : Int) 48 = tx (b ++ List.replicate (c.sb - b.length) 48) := by
      unfold fillR
      rw [if_neg (by rw [tx_len]; omega), tx_len]
      show (⟨Array.replicate 0 48 ++ (tx b).cps ++ Array.replicate (Int.toNat c.sb - b.length) 48⟩ : Str) = _
      rw [Int.toNat_natCast]
      simp [tx]
    rw [ef]
    have hfl : (b ++ List.replicate (c.sb - b.length) 48).length = c.sb := by rw [List.length_append, List.length_replicate]; omega
    have hfb : Bits (b ++ List.replicate (c.sb - b.length) 48) := hb.app fun x hx => .inl (List.eq_of_mem_replicate hx)
    walk_at "rd"
    refine r_intBin (by rw [tx_list]; intro z; rw [z] at hfl; simp at hfl; omega) (by rw [tx_len, hfl]; omega) (by rw [tx_list]; exact hfb) ?_
    rw [tx_list]
    have dlt : Bn.binNum (b ++ List.replicate (c.sb - b.length) 48) < c.sg.cps.toList.length := by
      have := bin_lt hfb
      rw [hfl] at this
      rw [Array.length_toList]
      show _ < c.sg.length
      rw [ok.ln]
      exact this
    have gch : atI c.sg.cps.toList ((Bn.binNum (b ++ List.replicate (c.sb - b.length) 48) : Nat) : Int) = some (lastS c b) := by
      refine atI_nat ?_
      unfold lastS sgnOf
      rw [List.getElem?_eq_getElem dlt, List.getD_eq_getElem?_getD, List.getElem?_eq_getElem dlt]
      rfl
    have lsg : c.sg.length ≤ sizeLine := smallS (by
      rw [ok.ln]
      exact Nat.le_trans (Nat.pow_le_pow_right (by decide) hb6) (by decide))
    refine r_ixS lsg gch ?_
    walk_at "rd"
    refine ⟨a, c, col, lastS c b, rfl, hc, fun p H1 s1 np hv => ?_⟩
    have hc1 := hc.same s1
    walk_at "rx"
    refine r_seqC (fun σ G => σ = [some (.ref a), some (.ref st), some (.str (tx b)), some (.int (sn : Nat)), some (.int ((c.plc col (lastS c b)).2 : Nat)), some (.str (tx [lastS c b])), some (.str (tx (c.plc col (lastS c b)).1)), some (.int (miss c sn : Nat)), none, none] ∧ Same H G) ?_ fun N tail => ?_
    · rintro σ G ⟨rfl, sG⟩
      have hcG := hc.same sG
      have lm : miss c sn ≤ 8 := by
        have : grp c.sb ≤ 8 := by
          have e : c.sb = 1 ∨ c.sb = 2 ∨ c.sb = 3 ∨ c.sb = 4 ∨ c.sb = 5 ∨ c.sb = 6 := by omega
          rcases e with e | e | e | e | e | e <;> rw [e] <;> decide
        unfold miss
        split <;> omega
      walk_at "rd"
      refine r_one ⟨by omega, by omega⟩ ?_
      rw [Int.toNat_natCast]
      simp only [plcs] at q
      unfold padL at q
      generalize hP : (c.plc col (lastS c b)).1 = part0 at q ⊢
      generalize hC : (c.plc col (lastS c b)).2 = col0 at q ⊢
      have lp0 : part0.length ≤ 2 := by rw [← hP]; exact plc_len c col _
      refine f_it (walk_range (lo := 0) (n := miss c sn)) (fun i σ G => ∃ v8 v9, σ = [some (.ref a), some (.ref st), some (.str (tx b)), some (.int (sn : Nat)), some (.int ((plcs c col0 (List.replicate i (c.pd.cps.toList.getD 0 0))).2 : Nat)), some (.str (tx [lastS c b])), some (.str (tx (part0 ++ (plcs c col0 (List.replicate i (c.pd.cps.toList.getD 0 0))).1))), some (.int (miss c sn : Nat)), v8, v9] ∧ Same H G)
        ⟨none, none, by simp [plcs], sG⟩ (fun _ _ _ _ _ => trivial) ?_ ?_
      · rintro i x σ G2 G2' hi ⟨v8, v9, rfl, s2⟩ ⟨rfl, rfl⟩
        have hc2 := hc.same s2
        have hne : c.pd.cps.toList ≠ [] := fun z => by
          unfold miss at hi
          rw [if_pos z] at hi
          omega
        have ep := pad_eq ok hne
        walk_at "rd"
        refine ⟨a, c, _, c.pd.cps.toList.getD 0 0, by rw [← ep]; rfl, hc2, fun p2 H3 s3 np3 hv3 => ?_⟩
        walk_at "rd"
        have lpl := plcs_len c (List.replicate i (c.pd.cps.toList.getD 0 0)) col0
        rw [List.length_replicate] at lpl
        refine r_iaddS (smallS (by
          rw [tx_len, tx_len, List.length_append]
          have := plc_len c (plcs c col0 (List.replicate i (c.pd.cps.toList.getD 0 0))).2 (c.pd.cps.toList.getD 0 0)
          omega)) ?_
        rw [tx_app]
        walk_at "rd"
        refine ⟨some (.int (0 + (i : Int))), some (.str (tx (c.plc (plcs c col0 (List.replicate i (c.pd.cps.toList.getD 0 0))).2 (c.pd.cps.toList.getD 0 0)).1)), ?_, s2.trans s3⟩
        rw [List.replicate_succ', plcs_app]
        simp only [plcs, List.append_nil, List.append_assoc]
        rfl
      · rintro σ G2 ⟨v8, v9, rfl, s2⟩
        walk_at "rd"
        exact q G2 s2
    · walk_at "rx"
      have ep : (c.pd = Str.ofString "") ↔ c.pd.cps.toList = [] := by
        rw [e_tx]
        constructor
        · intro z; rw [z, tx_list]
        · intro z; rw [tx_of c.pd, z]
      refine r_iteND (fun h => ?_) (fun h => ?_)
      · have hne : c.pd.cps.toList ≠ [] := fun z => h (ep.mpr z)
        walk_at "rx"
        refine tail _ _ ⟨?_, s1⟩
        unfold miss
        rw [if_neg hne]
        have e : ((grp c.sb : Nat) : Int) - 1 - (sn : Nat) = ((grp c.sb - 1 - sn : Nat) : Int) := by omega
        rw [← e]
        rfl
      · walk_at "rx"
        refine tail _ _ ⟨?_, s1⟩
        unfold miss
        rw [if_pos (ep.mp h)]
        rfl
theorem ok_Code_close (T : Txt K mg) : FnOk P w K mg base CX0 5 T.Code_close_a T.Code_close_d ["self", "state"] (sp_Code_close T) := by
  refine T.Code_close_f.ok sc_Code_close (fun vs H Q E h => len_Code_close T vs H Q E h) (fun cdv A outer s H vs Q E hr h => ⟨t_Code_close T, PSs.nox ?_, pure_Code_close T vs H Q E h⟩)
  have hu := hu64 hr
  exact (pss_cons (ps_asg (pv 1) (pg_tup (by rfl) (pgs_cons (pg_name (i := 2) sc_Code_close.nd rfl (.inl rfl)) (pgs_cons (pg_name (i := 3) sc_Code_close.nd rfl (.inl rfl)) (pgs_cons (pg_name (i := 4) sc_Code_close.nd rfl (.inl rfl)) pgs_nil)))))
      (pss_cons (ps_if (pt_cmpR (op_eqU hu) (pv 2) pe_str (nomark _)) (pss_one (ps_ret pe_str)) pss_nil)
      (pss_cons (ps_set (i := 5) sc_Code_close.nd rfl (.inl rfl) (pe_ix ix_seq (pe_prop (pv 0) T.C_Code_c T.Code_signs_p (ok_Code_signs T) (hr.mono (by decide)) T.Code_signs_b .nil pass0 rfl) (pe_callTy call_int_bin (by rfl) T.n_int (by decide +kernel) (pa_cons (pe_bm PySem.F.plainAttrs_str PySem.F.slot_str_ljust PySem.F.type_str_ljust mt_ljustC (pv 2) (pa_cons (pe_prop (pv 0) T.C_Code_c T.Code_bits_p (ok_Code_bits T) (hr.mono (by decide)) T.Code_bits_b .nil pass0 rfl) (pa_cons pe_str pa_nil))) (pa_cons pe_int pa_nil))) (fun _ _ => rfl)))
      (pss_cons (ps_asg (pe_meth (pv 0) T.C_Code_c T.Code_placed_m (ok_Code_placed T) (hr.mono (by decide)) T.Code_placed_b .nil pass0 (pa_cons (pv 4) (pa_cons (pv 5) pa_nil))) (pg_tup (by rfl) (pgs_cons (pg_name (i := 6) sc_Code_close.nd rfl (.inl rfl)) (pgs_cons (pg_name (i := 4) sc_Code_close.nd rfl (.inl rfl)) pgs_nil))))
      (pss_cons (ps_set (i := 7) sc_Code_close.nd rfl (.inl rfl) (pe_ifExp (pt_cmpR (op_neU hu) (pe_prop (pv 0) T.C_Code_c T.Code_pad_p (ok_Code_pad T) (hr.mono (by decide)) T.Code_pad_b .nil pass0 rfl) pe_str (nomark _)) (pe_op op_sub (pe_op op_sub (pe_prop (pv 0) T.C_Code_c T.Code_group_p (ok_Code_group T) (hr.mono (by decide)) T.Code_group_b .nil pass0 rfl) pe_int) (pv 3)) pe_int))
      (pss_cons (ps_for PassesOwn.never rfl (pi_range1 (by rfl) T.n_range (pa_cons (pv 7) pa_nil)) (pg_name (i := 8) sc_Code_close.nd rfl (.inl rfl)) (pss_cons (ps_asg (pe_meth (pv 0) T.C_Code_c T.Code_placed_m (ok_Code_placed T) (hr.mono (by decide)) T.Code_placed_b .nil pass0 (pa_cons (pv 4) (pa_cons (pe_prop (pv 0) T.C_Code_c T.Code_pad_p (ok_Code_pad T) (hr.mono (by decide)) T.Code_pad_b .nil pass0 rfl) pa_nil))) (pg_tup (by rfl) (pgs_cons (pg_name (i := 9) sc_Code_close.nd rfl (.inl rfl)) (pgs_cons (pg_name (i := 4) sc_Code_close.nd rfl (.inl rfl)) pgs_nil))))
      (pss_one (ps_aug (i := 6) sc_Code_close.nd rfl (.inl rfl) (pv 9) ip_addU))))
      (pss_one (ps_ret (pv 6)))))))))


end
section
variable {w : World} {K : PySem.W.Frag} {mg : Str → Option Value} {base : Heap}
local macro_rules | `(tactic| walk_at "hc") => `(tactic| first
  | assumption
  | ((refine CodeAt.same (H := ?xH) ?xb ?xa); (case xa => assumption); (case xb => walk_at "hc")))
local macro_rules | `(tactic| walk_at "rd0") => `(tactic| first
  | ((with_reducible refine r_get (a := ?xa) (c := ?xc) ?x1 ?x2 ?_); (case x1 => rfl); (case x2 => walk_at "hc"))
  | ((with_reducible refine r_methC (a := ?xa) (c := ?xc) ?x1 ?x2 ?x3 ?_); (case x1 => rfl); (case x2 => walk_at "hc"); (case x3 => (intro _ _ _; rfl)))
  | (with_reducible refine r_fmtB ?_)
  | (with_reducible refine r_dget ?_)
  | (with_reducible refine r_m0 ?_)
  | (with_reducible refine r_makeK ?_)
  | (with_reducible refine r_cval ?_)
  | (with_reducible refine r_sfld ?_)
  | (with_reducible refine r_isiI ?_)
  | (with_reducible refine r_isiIB ?_)
  | (with_reducible refine r_isiS ?_)
  | (with_reducible refine r_inID ?_))

/-! ### whole texts -/
/-- part texts, the bits, the signs, the column behind the bytes -/
structure Wst where
  out : List (List Nat)
  b : List Nat
  sn : Nat
  col : Nat
def wstep (c : CodeD) (s : Wst) (x : Int) : Wst :=
  let B := s.b ++ b8 x.toNat
  ⟨s.out ++ [(wP c B s.col).1], rs c B, snN (grp c.sb) s.sn (em c B).length, (wP c B s.col).2⟩
def wrun (c : CodeD) (xs : List Int) : Wst := xs.foldl (wstep c) ⟨[], [], 0, 0⟩
def textC (c : CodeD) (xs : List Int) : List Nat := (wrun c xs).out.flatten ++ (plcs c (wrun c xs).col (endS c (wrun c xs).b (wrun c xs).sn)).1
theorem wrun_snoc (c : CodeD) (xs : List Int) (x : Int) : wrun c (xs ++ [x]) = wstep c (wrun c xs) x := by
  unfold wrun
  rw [List.foldl_append]
  rfl
theorem snN_lt {g : Nat} (hg : 0 < g) : ∀ (n sn : Nat), sn < g → snN g sn n < g
  | 0, sn, h => h
  | n + 1, sn, h => snN_lt hg n _ (Nat.mod_lt _ hg)
theorem wP_len (c : CodeD) (b : List Nat) (col : Nat) (h : b.length ≤ 13) : (wP c b col).1.length ≤ 27 := by
  have h1 := plcs_len c (em c b) col
  have h2 := em_len c _ b (Nat.le_refl _)
  unfold wP
  split
  · rw [List.length_append]
    simp only [List.length_cons, List.length_nil]
    omega
  · omega
structure Wok (c : CodeD) (s : Wst) : Prop where
  bits : Bits s.b
  bl : s.b.length < c.sb
  snl : s.sn < grp c.sb
  ol : ∀ p ∈ s.out, p.length ≤ 27
theorem Wok.step {c : CodeD} (ok : c.Ok) {s : Wst} (h : Wok c s) (x : Int) : Wok c (wstep c s x) := by
  have hB : Bits (s.b ++ b8 x.toNat) := h.bits.app (b8_bits _)
  have hl : (s.b ++ b8 x.toNat).length ≤ 13 := by
    have h1 := h.bl
    have h2 := ok.b6
    rw [List.length_append]
    show s.b.length + 8 ≤ 13
    omega
  obtain ⟨i1, k, i2⟩ := rs_sub c _ (s.b ++ b8 x.toNat) (Nat.le_refl _) ok.b1
  refine ⟨?_, i1, snN_lt (grp_pos ok.b1 ok.b6) _ _ h.snl, ?_⟩
  · show Bits (rs c _)
    rw [i2]
    exact hB.drop k
  · intro p hp
    rcases List.mem_append.mp hp with m | m
    · exact h.ol p m
    · rw [List.mem_singleton.mp m]
      exact wP_len c _ _ hl
theorem Wok.run {c : CodeD} (ok : c.Ok) (xs : List Int) : Wok c (wrun c xs) := by
  have h : ∀ (xs : List Int) (s : Wst), Wok c s → Wok c (xs.foldl (wstep c) s) := by
    intro xs
    induction xs with
    | nil => intro s h; exact h
    | cons x r ih => intro s h; exact ih _ (h.step ok x)
  exact h xs _ ⟨fun x hx => (nomatch hx), ok.b1, grp_pos ok.b1 ok.b6, fun p hp => (nomatch hp)⟩
theorem out_len (c : CodeD) (xs : List Int) : (wrun c xs).out.length = xs.length := by
  have h : ∀ (xs : List Int) (s : Wst), (xs.foldl (wstep c) s).out.length = s.out.length + xs.length := by
    intro xs
    induction xs with
    | nil => intro s; rfl
    | cons x r ih =>
      intro s
      rw [List.foldl_cons, ih]
      show (s.out ++ [_]).length + r.length = s.out.length + (r.length + 1)
      rw [List.length_append]
      simp only [List.length_cons, List.length_nil]
      omega
  have := h xs ⟨[], [], 0, 0⟩
  simpa [wrun] using this
theorem join_tx : ∀ l : List (List Nat), Str.join (Str.ofString "") (l.map tx) = tx l.flatten
  | [] => rfl
  | [x] => by
    show tx x = tx (x ++ [])
    rw [List.append_nil]
  | x :: y :: r => by
    have ih := join_tx (y :: r)
    rw [List.map_cons, List.map_cons, join_cons_cons]
    rw [List.map_cons] at ih
    rw [ih, e_tx, tx_app, tx_app, List.append_nil]
    rfl
theorem txt_join_tx (l : List (List Nat)) : Txt.join (Str.ofString "") (l.map tx) = tx l.flatten := by
  rw [← join_tx]
  exact PySem.StrLaws.glued_eq_join _ _
theorem sum_le {m : Nat} : ∀ l : List (List Nat), (∀ p ∈ l, p.length ≤ m) → ((l.map tx).map (·.length)).sum ≤ l.length * m
  | [], _ => by simp
  | x :: r, h => by
    have h1 := h x (List.mem_cons_self ..)
    have h2 := sum_le r fun p hp => h p (List.mem_cons_of_mem _ hp)
    simp only [List.map_cons, List.sum_cons, List.length_cons, tx_len, Nat.add_mul, Nat.one_mul] at h2 ⊢
    omega
def sp_Machine_whole (T : Txt K mg) : Sp := fun vs H Q _ => ∃ a c p, ∃ xs : List Int, vs = [.ref a, .ref p] ∧ CodeAt T H a c ∧ H p = some (.lst (xs.map V.int)) ∧ xs.length ≤ 600 ∧ Byts xs ∧ ∀ H', Same H H' → Q (.str (tx (textC c xs))) H'
theorem len_Machine_whole (T : Txt K mg) (vs : List V) (H : Hp) (Q : VK) (E : XK) (h : sp_Machine_whole T vs H Q E) : vs.length = 2 := by
  obtain ⟨_, _, _, _, rfl, _⟩ := h
  rfl
def t_Machine_whole (T : Txt K mg) : TS := (tSeq (tPar 2 3 (tCons (tLst tNil) (tCons (tMeth T.C_Code "begin" (sp_Code_begin T) [] E0 (tVar 0) tNil) tNil)))
    (tSeq (tFor (iSeqU K (tVar 1)) (gName 4) (tSeq (tAsg (tMeth T.C_Code "write" (sp_Code_write T) [] E0 (tVar 0) (tCons (tVar 3) (tCons (tVar 4) tNil))) (gTup K 2 (gCons (gName 5) (gCons (gName 3) gNil))))
    (tDrop (tBM K "list" rAppend (tVar 2) (tCons (tVar 5) tNil)))))
    (tRet (tOp (rAddU K) (tJoinU K (tC (.str (Str.ofString ""))) (tVar 2)) (tMeth T.C_Code "close" (sp_Code_close T) [] E0 (tVar 0) (tCons (tVar 3) tNil))))))

theorem pure_Machine_whole (T : Txt K mg) (vs : List V) (H : Hp) (Q : VK) (E : XK) (h : sp_Machine_whole T vs H Q E) : t_Machine_whole T { nx := fun _ H' => Q .non H', rt := Q } (start ["self", "data", "parts", "state", "byte", "part"] vs) H := by
  obtain ⟨a, c, p, xs, rfl, hc, hp, hl, hx, q⟩ := h
  have ok := hc.1
  unfold t_Machine_whole
  walk_at "rd"
  refine And.intro (Nat.zero_le _) ?_
  intro D nD
  generalize hg : upd _ D _ = Hn
  have hs := same_of hg nD
  have hv := at_of hg
  clear hg
  walk_at "rd"
  refine ⟨a, c, rfl, hc.same hs, fun st H1 s1 nst hst => ?_⟩
  walk_at "rd"
  refine r_iseqL ?_
  walk_at "rd"
  have hp1 : H1 p = some (.lst (xs.map V.int)) := s1 _ _ (hs _ _ hp)
  have nDp : p ≠ D := ne_of_none hp nD
  refine ⟨p, rfl, ⟨_, ql hp1⟩, ?_⟩
  refine f_it (walk_list (K := K) (a := p) (xs := xs.map V.int)) (fun i σ G => ∃ v4 v5 st, σ = [some (.ref a), some (.ref p), some (.ref D), some (.ref st), v4, v5] ∧ Same H G ∧ H st = none ∧ st ≠ D ∧
      G D = some (.lst ((wrun c (xs.take i)).out.map fun l => V.str (tx l))) ∧ StAt G st (wrun c (xs.take i)).b (wrun c (xs.take i)).sn (wrun c (xs.take i)).col)
    ⟨none, none, st, rfl, hs.trans s1, hs.free nst, (ne_of_none hv nst).symm, s1 _ _ hv, hst⟩ (fun i σ G _ h => by
      obtain ⟨_, _, _, _, s, _⟩ := h
      exact ql (s _ _ hp)) ?_ ?_
  · rintro i x σ G G' hi ⟨v4, v5, st, rfl, sG, hst0, hstD, hD, hS⟩ ⟨rfl, hx'⟩
    obtain ⟨z, hz, rfl⟩ := at_int hx'
    have bz := hx z (List.mem_of_getElem? hz)
    obtain ⟨n, rfl⟩ : ∃ n : Nat, z = n := ⟨z.toNat, by omega⟩
    have wok := Wok.run ok (xs.take i)
    have hcG := hc.same sG
    walk_at "rd"
    refine ⟨a, c, st, _, _, _, n, rfl, hcG, hS, wok.bits, wok.bl, by omega, fun pp st' G2 s2 npp nst' hpp hst' => ?_⟩
    walk_at "rd"
    have hD2 := s2 _ _ hD
    refine ⟨r_tyL (ql hD2), ?_⟩
    walk_at "rd"
    have ol : (wrun c (xs.take i)).out.length ≤ 600 := by
      rw [out_len, List.length_take]
      omega
    refine r_append hD2 (by rw [List.length_map]; exact Nat.lt_of_le_of_lt ol (by rw [sizeLine_eq]; decide)) ?_
    walk_at "rd"
    have e : wrun c (xs.take (i + 1)) = wstep c (wrun c (xs.take i)) (n : Nat) := by
      rw [List.take_add_one, hz, ← wrun_snoc]
      rfl
    have ne' : st' ≠ D := (ne_of_none hD nst').symm
    rw [e]
    refine ⟨_, _, st', rfl, same_mut (sG.trans s2) nD, sG.free nst', ne', ?_, ?_⟩
    · rw [upd_same]
      show _ = some (HO.lst (List.map _ (_ ++ [_])))
      rw [List.map_append]
      first | done | rfl
    · unfold StAt
      rw [upd_ne ne']
      exact hst'
  · rintro σ G ⟨v4, v5, st, rfl, sG, hst0, hstD, hD, hS⟩
    rw [List.length_map, List.take_of_length_le (Nat.le_refl _)] at hD hS
    have wok := Wok.run ok xs
    walk_at "rd"
    refine r_join ?_ rfl
    walk_at "rd"
    have sl := sum_le _ wok.ol
    rw [out_len] at sl
    refine ⟨_, D, (wrun c xs).out.map tx, rfl, rfl, .inl (ql ?_), ?_, ?_⟩
    · rw [List.map_map]
      exact hD
    · have e0 : (Str.ofString "").length = 0 := rfl
      rw [e0, Nat.mul_zero, Nat.add_zero]
      omega
    rw [txt_join_tx]
    walk_at "rd"
    refine ⟨a, c, st, _, _, _, rfl, hc.same sG, hS, wok.bits, wok.bl, wok.snl, fun H3 s3 => ?_⟩
    refine r_addUS (smallS ?_) ?_
    · rw [tx_len, tx_len]
      have h1 := plcs_len c (endS c (wrun c xs).b (wrun c xs).sn) (wrun c xs).col
      have h2 : (endS c (wrun c xs).b (wrun c xs).sn).length ≤ 10 := by
        unfold endS padL miss
        have g8 : grp c.sb ≤ 8 := by
          have h1 := ok.b1
          have h6 := ok.b6
          have e : c.sb = 1 ∨ c.sb = 2 ∨ c.sb = 3 ∨ c.sb = 4 ∨ c.sb = 5 ∨ c.sb = 6 := by omega
          rcases e with e | e | e | e | e | e <;> rw [e] <;> decide
        split
        · exact Nat.zero_le _
        · rw [List.length_cons, List.length_replicate]
          split <;> omega
      have h3 : (wrun c xs).out.flatten.length = ((((wrun c xs).out).map tx).map (·.length)).sum := by
        rw [List.length_flatten, List.map_map]
        congr 1
        try exact List.map_congr_left fun l _ => (tx_len l).symm
      omega
    rw [tx_app]
    walk_at "rd"
    exact q H3 (sG.trans s3)
theorem ok_Machine_whole (T : Txt K mg) : FnOk P w K mg base CX0 6 T.Machine_whole_a T.Machine_whole_d ["self", "data"] (sp_Machine_whole T) := by
  refine T.Machine_whole_f.ok sc_Machine_whole (fun vs H Q E h => len_Machine_whole T vs H Q E h) (fun cdv A outer s H vs Q E hr h => ⟨t_Machine_whole T, PSs.nox ?_, pure_Machine_whole T vs H Q E h⟩)
  have hu := hu64 hr
  exact (pss_cons (ps_par (i := 2) (j := 3) (by rfl) sc_Machine_whole.nd rfl rfl (by decide) rfl rfl (pa_cons (pe_lst pa_nil) (pa_cons (pe_meth0 (pv 0) T.C_Code_c T.Code_begin_m (ok_Code_begin T) (hr.mono (by decide)) T.Code_begin_b .nil pass0) pa_nil)) (by rfl))
      (pss_cons (ps_for PassesOwn.never rfl (pi_seqU (pv 1)) (pg_name (i := 4) sc_Machine_whole.nd rfl (.inl rfl)) (pss_cons (ps_asg (pe_meth (pv 0) T.C_Code_c T.Code_write_m (ok_Code_write T) (hr.mono (by decide)) T.Code_write_b .nil pass0 (pa_cons (pv 3) (pa_cons (pv 4) pa_nil))) (pg_tup (by rfl) (pgs_cons (pg_name (i := 5) sc_Machine_whole.nd rfl (.inl rfl)) (pgs_cons (pg_name (i := 3) sc_Machine_whole.nd rfl (.inl rfl)) pgs_nil))))
      (pss_one (ps_expr (pe_bm PySem.F.plainAttrs_list PySem.F.slot_list_append PySem.F.type_list_append mt_append (pv 2) (pa_cons (pv 5) pa_nil))))))
      (pss_one (ps_ret (pe_op op_addU (pe_join pe_str (pv 2)) (pe_meth (pv 0) T.C_Code_c T.Code_close_m (ok_Code_close T) (hr.mono (by decide)) T.Code_close_b .nil pass0 (pa_cons (pv 3) pa_nil)))))))

def sp_plain_text (T : Txt K mg) : Sp := sp_Machine_whole T
theorem len_plain_text (T : Txt K mg) (vs : List V) (H : Hp) (Q : VK) (E : XK) (h : sp_plain_text T vs H Q E) : vs.length = 2 := len_Machine_whole T vs H Q E h
def t_plain_text (T : Txt K mg) : TS := (tRet (tMeth T.C_Code "whole" (sp_Machine_whole T) [] E0 (tVar 0) (tCons (tVar 1) tNil)))

theorem pure_plain_text (T : Txt K mg) (vs : List V) (H : Hp) (Q : VK) (E : XK) (h : sp_plain_text T vs H Q E) : t_plain_text T { nx := fun _ H' => Q .non H', rt := Q } (start ["code", "data"] vs) H := by
  obtain ⟨a, c, p, xs, rfl, hc, hp, hl, hx, q⟩ := h
  unfold t_plain_text
  walk_at "rd"
  exact ⟨a, c, p, xs, rfl, hc, hp, hl, hx, q⟩
theorem ok_plain_text (T : Txt K mg) : FnOk P w K mg base CX0 7 T.plain_text_a T.plain_text_d ["code", "data"] (sp_plain_text T) := by
  refine T.plain_text_f.ok sc_plain_text (fun vs H Q E h => len_plain_text T vs H Q E h) (fun cdv A outer s H vs Q E hr h => ⟨t_plain_text T, PSs.nox ?_, pure_plain_text T vs H Q E h⟩)
  have hu := hu64 hr
  exact (pss_one (ps_ret (pe_meth (pv 0) T.C_Code_c T.Machine_whole_m (ok_Machine_whole T) (hr.mono (by decide)) T.Machine_whole_b .nil pass0 (pa_cons (pv 1) pa_nil))))

def sp_text_of (T : Txt K mg) : Sp := sp_Machine_whole T
theorem len_text_of (T : Txt K mg) (vs : List V) (H : Hp) (Q : VK) (E : XK) (h : sp_text_of T vs H Q E) : vs.length = 2 := len_Machine_whole T vs H Q E h
def t_text_of (T : Txt K mg) : TS := (tRet (tCall (sp_plain_text T) [] E0 (tCons (tVar 0) (tCons (tCall (sp_data_of T) [] E0 (tCons (tVar 1) tNil)) tNil))))

theorem pure_text_of (T : Txt K mg) (vs : List V) (H : Hp) (Q : VK) (E : XK) (h : sp_text_of T vs H Q E) : t_text_of T { nx := fun _ H' => Q .non H', rt := Q } (start ["code", "data"] vs) H := by
  obtain ⟨a, c, p, xs, rfl, hc, hp, hl, hx, q⟩ := h
  unfold t_text_of
  walk_at "rd"
  refine ⟨p, xs, rfl, hp, hl, hx, fun r H1 s1 nr hr => ?_⟩
  walk_at "rd"
  exact ⟨a, c, r, xs, rfl, hc.same s1, hr, hl, hx, fun H2 s2 => q H2 (s1.trans s2)⟩
theorem ok_text_of (T : Txt K mg) : FnOk P w K mg base CX0 8 T.text_of_a T.text_of_d ["code", "data"] (sp_text_of T) := by
  refine T.text_of_f.ok sc_text_of (fun vs H Q E h => len_text_of T vs H Q E h) (fun cdv A outer s H vs Q E hr h => ⟨t_text_of T, PSs.nox ?_, pure_text_of T vs H Q E h⟩)
  have hu := hu64 hr
  exact (pss_one (ps_ret (pe_call (ok_plain_text T) (hr.mono (by decide)) (by rfl) T.plain_text_g T.plain_text_f.kp T.plain_text_b .nil pass0 (pa_cons (pv 0) (pa_cons (pe_call (ok_data_of T) (hr.mono (by decide)) (by rfl) T.data_of_g T.data_of_f.kp T.data_of_b .nil pass0 (pa_cons (pv 1) pa_nil)) pa_nil)))))


end
section
variable {w : World} {K : PySem.W.Frag} {mg : Str → Option Value} {base : Heap}
local macro_rules | `(tactic| walk_at "hc") => `(tactic| first
  | assumption
  | ((refine CodeAt.same (H := ?xH) ?xb ?xa); (case xa => assumption); (case xb => walk_at "hc")))
local macro_rules | `(tactic| walk_at "rd0") => `(tactic| first
  | ((with_reducible refine r_get (a := ?xa) (c := ?xc) ?x1 ?x2 ?_); (case x1 => rfl); (case x2 => walk_at "hc"))
  | ((with_reducible refine r_methC (a := ?xa) (c := ?xc) ?x1 ?x2 ?x3 ?_); (case x1 => rfl); (case x2 => walk_at "hc"); (case x3 => (intro _ _ _; rfl)))
  | (with_reducible refine r_fmtB ?_)
  | (with_reducible refine r_dget ?_)
  | (with_reducible refine r_m0 ?_)
  | (with_reducible refine r_makeK ?_)
  | (with_reducible refine r_cval ?_)
  | (with_reducible refine r_sfld ?_)
  | (with_reducible refine r_isiI ?_)
  | (with_reducible refine r_isiIB ?_)
  | (with_reducible refine r_isiS ?_)
  | (with_reducible refine r_inID ?_))

/-! ### a code is made -/
theorem d_it {J : It} {n : Nat} {G0 : Hp → Prop} {Y : Nat → Hp → V → Hp → Prop} {g : TG} {tt : TT} {tk tv : TE} {us : List Nat} {σ : S} {H : Hp} {D : Addr} {Qd : Hp → Prop} (w : Walk J n G0 Y) (Pv : Nat → Hp → Prop) (h0 : Pv 0 (upd H D (.dK []))) (hG : ∀ i H, i ≤ n → Pv i H → G0 H)
    (hs : ∀ i x H H', i < n → Pv i H → Y i H x H' → g x (wipe σ us) H' fun σ2 H2 => wipe σ2 us = wipe σ us ∧ tt σ2 H2 fun b H3 =>
      if b = true then tk σ2 H3 fun y H4 => tv σ2 H4 fun z H5 => ∃ kvs k, y = kV k ∧ H5 D = some (.dK kvs) ∧ kvs.length < sizeLine ∧ Pv (i + 1) (upd H5 D (.dK (putK kvs k z))) else Pv (i + 1) H3) (hd : ∀ H, Pv n H → Qd H) :
    ∃ W : Nat → Nat → Hp → Prop, (∃ m, W 0 m (upd H D (.dK []))) ∧ ∀ i m H, W i m H → (J.stop i H ∧ Qd H) ∨ (J.go i H ∧ ∃ Nx : Hp → Prop, (∀ H', Nx H' → ∃ m', m' < m ∧ W (i + 1) m' H') ∧ ∀ x H', J.yld i H x H' →
      g x (wipe σ us) H' fun σ2 H2 => wipe σ2 us = wipe σ us ∧ tt σ2 H2 fun b H3 =>
        if b = true then tk σ2 H3 fun y H4 => tv σ2 H4 fun z H5 => ∃ kvs k, y = kV k ∧ H5 D = some (.dK kvs) ∧ kvs.length < sizeLine ∧ Nx (upd H5 D (.dK (putK kvs k z))) else Nx H3) := by
  refine ⟨fun i m H => m = n - i ∧ i ≤ n ∧ Pv i H, ⟨n, by omega, Nat.zero_le _, h0⟩, ?_⟩
  rintro i m H ⟨rfl, hi, p⟩
  by_cases lt : i < n
  · exact .inr ⟨w.1 i H lt (hG i H hi p), Pv (i + 1), fun H' q => ⟨n - (i + 1), by omega, rfl, lt, q⟩, fun x H' y => hs i x H H' lt p (w.3 i H x H' lt (hG i H hi p) y)⟩
  · have e : i = n := by omega
    subst e
    exact .inl ⟨w.2 H (hG i H hi p), hd H p⟩
def CodeD.New (c : CodeD) : Prop := c.Ok ∧ c.sg.cps.toList.Nodup ∧ ∀ x ∈ c.pd.cps.toList, x ∉ c.sg.cps.toList
def sp_Code___init__ (T : Txt K mg) : Sp := fun vs H Q E => ∃ a dx wv t, ∃ c : CodeD, vs = [.ref a, .str c.sg, .str c.pd, wv] ∧ H a = some (.ins T.C_Code dx []) ∧ c.New ∧ Kd H wv t ∧
  ((wv = .int c.wd ∧ ∀ H', SameB a H H' → CodeAt T H' a c → Q .non H') ∨ (isW 0 76 wv = false ∧ ∀ d H', Same H H' → H' d = some (.xd [("name", .str (Str.ofString "width"))]) → E (.ref T.X_BadOption) (some d) H'))
theorem len_Code___init__ (T : Txt K mg) (vs : List V) (H : Hp) (Q : VK) (E : XK) (h : sp_Code___init__ T vs H Q E) : vs.length = 4 := by
  obtain ⟨_, _, _, _, _, rfl, _⟩ := h
  rfl
theorem bits_at {n : Nat} (h1 : 1 ≤ n) (h6 : n ≤ 6) : atK [(2, 1), (4, 2), (8, 3), (16, 4), (32, 5), (64, 6)] ((2 ^ n : Nat) : Int) = some (n : Int) := by
  have e : n = 1 ∨ n = 2 ∨ n = 3 ∨ n = 4 ∨ n = 5 ∨ n = 6 := by omega
  rcases e with rfl | rfl | rfl | rfl | rfl | rfl <;> decide
def t_Code___init__ (T : Txt K mg) (E : XK) : TS := (tSeq (tIfS (tOr (tNot (tB (tCall (sp_are_signs T) [] E0 (tCons (tVar 1) tNil)))) (tTest (tOp (rInID [(2, 1), (4, 2), (8, 3), (16, 4), (32, 5), (64, 6)] T.k_BITS_a (fun b => !b)) (tCB (rLenU K) (tCons (tVar 1) tNil)) (tC (.ref T.k_BITS_a))))) tNever tNext)
    (tSeq (tIfS (tOr (tAnd (tTest (tOp (rNeU K) (tVar 2) (tC (.str (Str.ofString ""))))) (tOr (tNot (tB (tCall (sp_is_sign T) [] E0 (tCons (tVar 2) tNil)))) (tTest (tOp (rInU K) (tVar 2) (tVar 1))))) (tNot (tB (tCB (rIsi K) (tCons (tVar 2) (tCons (tC (.ty "str")) tNil)))))) (tRaiseE E (tMkE T.X_BadOption "name" (tCons (tC (.str (Str.ofString "pad"))) tNil))) tNext)
    (tSeq (tIfS (tNot (tB (tCall (sp_is_within T) [] E0 (tCons (tVar 3) (tCons (tC (.int 0)) (tCons (ClX.tCVal K (tC (.ref T.C_Code)) "WIDEST") tNil)))))) (tRaiseE E (tMkE T.X_BadOption "name" (tCons (tC (.str (Str.ofString "width"))) tNil))) tNext)
    (tSeq (sFld K (tVar 0) (tTup (tCons (tVar 1) (tCons (tVar 2) (tCons (tVar 3) tNil)))) "parts")
    (tSeq (sFld K (tVar 0) (tDc (iEnumA K (tCons (tVar 1) tNil)) (gTup K 2 (gCons (gName 4) (gCons (gName 5) gNil))) tYes (tVar 5) (tVar 4) [4, 5]) "digits")
    (sFld K (tVar 0) (tOp (rIxID [(2, 1), (4, 2), (8, 3), (16, 4), (32, 5), (64, 6)] T.k_BITS_a) (tC (.ref T.k_BITS_a)) (tCB (rLenU K) (tCons (tVar 1) tNil))) "sign_bits"))))))

theorem pure_Code___init__ (T : Txt K mg) (vs : List V) (H : Hp) (Q : VK) (E : XK) (h : sp_Code___init__ T vs H Q E) : t_Code___init__ T E { nx := fun _ H' => Q .non H', rt := Q } (start ["self", "signs", "pad", "width", "digit", "sign"] vs) H := by
  obtain ⟨a, dx, wv, t, c, rfl, ha, ⟨ok, hnd, hpn⟩, kd, q⟩ := h
  have hb1 := ok.b1
  have hb6 := ok.b6
  have lsg : c.sg.length ≤ 64 := by
    rw [ok.ln]
    exact Nat.le_trans (Nat.pow_le_pow_right (by decide) hb6) (by decide)
  have lsl : c.sg.length ≤ sizeLine := smallS (by omega)
  unfold t_Code___init__
  walk_at "rd"
  refine ⟨c.sg, rfl, by omega, ok.sgs, hnd, fun H1 s1 => ?_⟩
  walk_at "rd"
  refine r_lenUS lsl ?_
  walk_at "rd"
  rw [show ((c.sg.length : Nat) : Int) = ((2 ^ c.sb : Nat) : Int) by rw [ok.ln], bits_at hb1 hb6]
  refine r_iteNT ?_
  walk_at "rx"
  refine r_seqC (fun σ G => σ = [some (.ref a), some (.str c.sg), some (.str c.pd), some wv, none, none] ∧ G = H1) ?_ fun N tail => ?_
  · rintro σ G ⟨rfl, rfl⟩
    walk_at "rd"
    refine ⟨_, _, _, _, rfl, T.C_Code_r, T.C_Code_v_WIDEST.choose_spec, ?_⟩
    walk_at "rd"
    refine ⟨wv, t, 0, 76, rfl, kd.same s1, ?_⟩
    rcases q with ⟨rfl, q⟩ | ⟨bad, q⟩
    rotate_left
    · rw [bad]
      walk_at "rd"
      refine r_raise (r_mkE ?_)
      walk_at "rd"
      exact ⟨_, rfl, fun d nd => q d _ (s1.trans (same_new nd)) upd_same⟩
    rw [show isW 0 76 (.int (c.wd : Int)) = true by
      show (decide ((0 : Int) ≤ c.wd) && decide ((c.wd : Int) ≤ 76)) = true
      rw [decide_eq_true (show (0 : Int) ≤ (c.wd : Int) by omega), decide_eq_true (show (c.wd : Int) ≤ 76 by have := ok.wd76; omega)]; rfl]
    walk_at "rd"
    refine And.intro (by show 3 ≤ sizeLine; decide) ?_
    intro tp ntp
    generalize hgt : upd _ tp _ = Ht
    have st := same_of hgt ntp
    have vt := at_of hgt
    clear hgt
    have hat := st _ _ (s1 _ _ ha)
    have ntpa : tp ≠ a := (ne_of_none (s1 _ _ ha) ntp).symm
    walk_at "rd"
    refine ⟨a, T.C_Code, dx, [], rfl, hat, T.C_Code_c, T.C_Code_n_parts, by decide, ?_⟩
    generalize hg3 : upd Ht a _ = H3
    have b3 : SameB a Ht H3 := sameB_of hg3
    have h3a : H3 a = some (.ins T.C_Code dx [("parts", .ref tp)]) := at_of hg3
    have h3t : H3 tp = some (.tup [.str c.sg, .str c.pd, .int c.wd]) := b3 _ _ ntpa vt
    clear hg3
    walk_at "rd"
    show iEnumA K (tCons (tVar 1) tNil) _ H3 _
    refine r_enumAS ?_
    walk_at "rd"
    refine ⟨c.sg, rfl, fun D nD => ?_⟩
    refine d_it walk_pairs (fun i G => (∃ kvs, G D = some (.dK kvs) ∧ kvs.length ≤ i ∧ ∀ (j ch : Nat), j < i → c.sg.cps.toList[j]? = some ch → valV kvs (.inr ⟨#[ch]⟩) = some (.int (j : Nat))) ∧ Same H3 G) ⟨⟨[], upd_same, Nat.le_refl _, fun j ch hj => absurd hj (Nat.not_lt_zero _)⟩, same_new nD⟩ (fun _ _ _ _ => trivial) ?_ ?_
    · rintro i x G G' hi ⟨⟨kvs, hk, lk, lo⟩, sG⟩ ⟨Tp, u, v, rfl, nT, hG', ea, eb⟩
      have hsT := same_of hG'.symm nT
      have hvT := at_of hG'.symm
      clear hG'
      cases ea
      unfold sgn at eb
      obtain ⟨ch, hch, rfl⟩ := Option.map_eq_some_iff.mp eb
      walk_at "rd"
      refine ⟨rfl, ?_⟩
      walk_at "rd"
      have hi' : i < c.sg.length := hi
      refine ⟨kvs, .inr ⟨#[ch]⟩, rfl, hsT _ _ hk, Nat.lt_of_le_of_lt lk (Nat.lt_of_lt_of_le hi' lsl), ⟨_, upd_same, ?_, ?_⟩, same_mut (sG.trans hsT) nD⟩
      · have := length_putK kvs (.inr ⟨#[ch]⟩) (.int (i : Nat))
        omega
      · intro j ch2 hj hj2
        rw [valV_put]
        have hch' : c.sg.cps.toList[i]? = some ch := by rw [Array.getElem?_toList]; exact hch
        by_cases e : j = i
        · subst e
          rw [hch'] at hj2
          rw [← Option.some.inj hj2, if_pos rfl]
        · rw [if_neg ?_]
          · exact lo j ch2 (by omega) hj2
          · intro z
            have z2 : ch2 = ch := by
              have := congrArg (fun k : Key => match k with | .inr s => s.cps.toList | .inl _ => []) z
              have : [ch2] = [ch] := this
              exact (List.cons.inj this).1
            subst z2
            obtain ⟨l1, g1⟩ := List.getElem?_eq_some_iff.mp hj2
            obtain ⟨l2, g2⟩ := List.getElem?_eq_some_iff.mp hch'
            exact e ((List.getElem_inj hnd).mp (g1.trans g2.symm))
    rintro G4 ⟨⟨kvs, hk, lk, lo⟩, sG⟩
    walk_at "rd"
    refine ⟨a, T.C_Code, dx, _, rfl, sG _ _ h3a, T.C_Code_c, T.C_Code_n_digits, (by show 1 < 1000; decide), ?_⟩
    generalize hg5 : upd G4 a _ = H5
    have b5 : SameB a G4 H5 := sameB_of hg5
    have h5a : H5 a = some (.ins T.C_Code dx [("parts", .ref tp), ("digits", .ref D)]) := at_of hg5
    have nDa : D ≠ a := (ne_of_none h3a nD).symm
    have h5D := b5 _ _ nDa hk
    have h5t : H5 tp = some (.tup [.str c.sg, .str c.pd, .int c.wd]) := b5 _ _ ntpa (sG _ _ h3t)
    clear hg5
    walk_at "rd"
    refine r_lenUS lsl ?_
    rw [ok.ln]
    refine r_ixID (bits_at hb1 hb6) ?_
    walk_at "rd"
    refine ⟨a, T.C_Code, dx, _, rfl, h5a, T.C_Code_c, T.C_Code_n_sign_bits, (by show 2 < 1000; decide), ?_⟩
    generalize hg6 : upd H5 a _ = H6
    have b6 : SameB a H5 H6 := sameB_of hg6
    have h6a : H6 a = some (.ins T.C_Code dx [("parts", .ref tp), ("digits", .ref D), ("sign_bits", .int c.sb)]) := at_of hg6
    have h6t := b6 _ _ ntpa h5t
    have h6D := b6 _ _ nDa h5D
    have lo2 : Dig c kvs := fun j ch hj => lo j ch (by
      have := (List.getElem?_eq_some_iff.mp hj).1
      rw [Array.length_toList] at this
      exact this) hj
    clear hg6
    exact q H6 (((toB (s1.trans st)).trans b3).trans ((toB sG).trans (b5.trans b6))) ⟨ok, dx, tp, D, kvs, h6a, h6t, h6D, lo2⟩
  · walk_at "rx"
    have pn : (c.pd = Str.ofString "") ↔ c.pd.cps.toList = [] := by
      rw [e_tx]
      constructor
      · intro z; rw [z, tx_list]
      · intro z; rw [tx_of c.pd, z]
    have fin : (if (!true) = true then True else True) := trivial
    refine r_iteND (fun h => ?_) (fun h => ?_)
    · have hne : c.pd.cps.toList ≠ [] := fun z => h (pn.mpr z)
      have ep := pad_eq ok hne
      have mp : c.pd.cps.toList.getD 0 0 ∈ c.pd.cps.toList := by
        cases hl : c.pd.cps.toList with
        | nil => exact absurd hl hne
        | cons x r => exact List.mem_cons_self
      walk_at "rx"
      refine ⟨c.pd.cps.toList.getD 0 0, by rw [ep]; rfl, ok.pds _ mp, ?_⟩
      walk_at "rx"
      refine r_inS ⟨c.pd.cps.toList.getD 0 0, c.sg, ep ▸ rfl, rfl, ?_⟩
      rw [decide_eq_false (hpn _ mp)]
      walk_at "rx"
      exact tail _ _ ⟨rfl, rfl⟩
    · walk_at "rx"
      exact tail _ _ ⟨rfl, rfl⟩
theorem ok_Code___init__ (T : Txt K mg) : FnOk P w K mg base (L2.CX P w) 3 T.Code___init___a T.Code___init___d ["self", "signs", "pad", "width"] (sp_Code___init__ T) := by
  refine T.Code___init___f.ok sc_Code___init__ (fun vs H Q E h => len_Code___init__ T vs H Q E h) (fun cdv A outer s H vs Q E hr h => ⟨t_Code___init__ T E, ?_, pure_Code___init__ T vs H Q E h⟩)
  have hu := hu64 hr
  exact (pss_cons (ps_if (PW.pt (pw_or (pt_not (pt_val (pe_call (ok_are_signs T) (hr.mono (by decide)) (by rfl) T.are_signs_g T.are_signs_f.kp T.are_signs_b .nil pass0 (pa_cons (pv 1) pa_nil)))) (pw_or1 (pt_cmpR (op_notInID T.k_BITS_d) (pe_callB c_lenU (by rfl) T.n_len (by decide +kernel) (pa_cons (pv 1) pa_nil)) (pe_glob (by rfl) T.k_BITS_g rfl) (by rfl))))) (pss_one ps_never) pss_nil)
      (pss_cons (ps_if (PW.pt (pw_or (PW.pt (pw_and (pt_cmpR (op_neU hu) (pv 2) pe_str (nomark _)) (pw_and1 (PW.pt (pw_or (pt_not (pt_val (pe_call (ok_is_sign T) (hr.mono (by decide)) (by rfl) T.is_sign_g T.is_sign_f.kp T.is_sign_b .nil pass0 (pa_cons (pv 2) pa_nil)))) (pw_or1 (pt_cmpR op_inU (pv 2) (pv 1) (by rfl)))))))) (pw_or1 (pt_not (pt_val (pe_callB call_isi (by rfl) T.n_isinstance (by decide +kernel) (pa_cons (pv 2) (pa_cons (pe_bltn (v := .ty "str") (by rfl) T.n_str (by decide +kernel) rfl) pa_nil)))))))) (pss_one (ps_raise rfl (takes_of rfl rfl rfl rfl) (pmk_err (k := 0) (fld := "name") T.X_BadOption_F.oex T.X_BadOption_F.iC T.X_BadOption_F.tI (xi_BadOption T w) (hr.mono (by decide)) (by rfl) T.X_BadOption_g (pa_cons pe_str pa_nil)))) pss_nil)
      (pss_cons (ps_if (pt_not (pt_val (pe_call (ok_is_within T) (hr.mono (by decide)) (by rfl) T.is_within_g T.is_within_f.kp T.is_within_b .nil pass0 (pa_cons (pv 3) (pa_cons pe_int (pa_cons (ClX.pe_cval (pe_glob (by rfl) T.C_Code_g rfl)) pa_nil)))))) (pss_one (ps_raise rfl (takes_of rfl rfl rfl rfl) (pmk_err (k := 0) (fld := "name") T.X_BadOption_F.oex T.X_BadOption_F.iC T.X_BadOption_F.tI (xi_BadOption T w) (hr.mono (by decide)) (by rfl) T.X_BadOption_g (pa_cons pe_str pa_nil)))) pss_nil)
      (pss_cons (ps_fld (pv 0) (pe_tup (pa_cons (pv 1) (pa_cons (pv 2) (pa_cons (pv 3) pa_nil)))) rfl)
      (pss_cons (ps_fld (pv 0) (pe_dc (own := [("digit", 4), ("sign", 5)]) (g := (gTup K 2 (gCons (gName 4) (gCons (gName 5) gNil)))) (tt := tYes) rfl sc_Code___init__.nd (pi_enumA (by rfl) T.n_enumerate (pa_cons (pv 1) pa_nil)) (blkOk_by (own := [("digit", 4), ("sign", 5)]) (N := ["self", "signs", "pad", "width", "digit", "sign"]) (sc := defScope s_Code___init__) (by decide +kernel)) (fun _ _ _ _ _ => (pg_tup (by rfl) (pgs_cons (pg_name (i := 4) sc_Code___init__.nd rfl (.inl rfl)) (pgs_cons (pg_name (i := 5) sc_Code___init__.nd rfl (.inl rfl)) pgs_nil)))) (fun _ _ _ _ _ => pts_nil) (fun _ _ _ _ _ => (pv 5)) (fun _ _ _ _ _ => (pv 4))) rfl)
      (pss_one (ps_fld (pv 0) (pe_ixID T.k_BITS_d (pe_glob (by rfl) T.k_BITS_g rfl) (pe_callB c_lenU (by rfl) T.n_len (by decide +kernel) (pa_cons (pv 1) pa_nil)) (fun _ _ => rfl)) rfl)))))))


end
section
variable {w : World} {K : PySem.W.Frag} {mg : Str → Option Value} {base : Heap}
local macro_rules | `(tactic| walk_at "hc") => `(tactic| first
  | assumption
  | ((refine CodeAt.same (H := ?xH) ?xb ?xa); (case xa => assumption); (case xb => walk_at "hc")))
local macro_rules | `(tactic| walk_at "rd0") => `(tactic| first
  | ((with_reducible refine r_get (a := ?xa) (c := ?xc) ?x1 ?x2 ?_); (case x1 => rfl); (case x2 => walk_at "hc"))
  | ((with_reducible refine r_methC (a := ?xa) (c := ?xc) ?x1 ?x2 ?x3 ?_); (case x1 => rfl); (case x2 => walk_at "hc"); (case x3 => (intro _ _ _; rfl)))
  | (with_reducible refine r_fmtB ?_)
  | (with_reducible refine r_dget ?_)
  | (with_reducible refine r_m0 ?_)
  | (with_reducible refine r_makeK ?_)
  | (with_reducible refine r_cval ?_)
  | (with_reducible refine r_sfld ?_)
  | (with_reducible refine r_isiI ?_)
  | (with_reducible refine r_isiIB ?_)
  | (with_reducible refine r_isiS ?_)
  | (with_reducible refine r_inID ?_))

/-! ### codes compared; the known codes -/
def sp_Code___eq__ (T : Txt K mg) : Sp := fun vs H Q _ => ∃ a b c, vs = [.ref a, .ref b] ∧ CodeAt T H a c ∧ CodeAt T H b c ∧ Q (.bl true) H
theorem len_Code___eq__ (T : Txt K mg) (vs : List V) (H : Hp) (Q : VK) (E : XK) (h : sp_Code___eq__ T vs H Q E) : vs.length = 2 := by
  obtain ⟨_, _, _, rfl, _⟩ := h
  rfl
theorem sgs_low {z : Str} (h : Sgs z) : ∀ c ∈ z.cps.toList, c < 0x110000 := fun c hc => by
  have := h c hc
  unfold Sg at this
  omega
theorem r_eqParts {H : Hp} {Q : VK} {c : CodeD} {p q : Addr} (ok : c.Ok) (h1 : H p = some (.tup [.str c.sg, .str c.pd, .int c.wd])) (h2 : H q = some (.tup [.str c.sg, .str c.pd, .int c.wd])) (h : Q (.bl true) H) : rEqU K (.ref p) (.ref q) H Q := by
  have d : ∀ r, H r = some (.tup [.str c.sg, .str c.pd, .int c.wd]) → Dp K H (.ref r) (.tuple [.str c.sg, .str c.pd, .int c.wd]) := fun r hr => .tup (qt hr) (.cons (.str _) (.cons (.str _) (.cons (.int _) .nil)))
  have sh : SeqAt.shaped (.tuple [.str c.sg, .str c.pd, .int c.wd]) = true := by
    unfold SeqAt.shaped
    simp only [PyData.canLay0, PyData.canLayAll0, PyData.depth, PyData.depthAll, strOk_of (sgs_low ok.sgs), strOk_of (sgs_low ok.pds)]
    rfl
  refine r_eqUD (d p h1) (d q h2) sh sh ?_
  rw [show PyData.eqv (.tuple [.str c.sg, .str c.pd, .int c.wd]) (.tuple [.str c.sg, .str c.pd, .int c.wd]) = true by simp [PyData.eqv, PyData.eqvAll]]
  exact h
def t_Code___eq__ (T : Txt K mg) : TS := (tRet (tAndV (tCB (rIsi K) (tCons (tVar 1) (tCons (tC (.ref T.C_Code)) tNil))) (tOp (rEqU K) (tFld K (tVar 0) "parts") (tFld K (tVar 1) "parts"))))

theorem pure_Code___eq__ (T : Txt K mg) (vs : List V) (H : Hp) (Q : VK) (E : XK) (h : sp_Code___eq__ T vs H Q E) : t_Code___eq__ T { nx := fun _ H' => Q .non H', rt := Q } (start ["self", "other"] vs) H := by
  obtain ⟨a, b, c, rfl, ha, hb, q⟩ := h
  unfold t_Code___eq__
  walk_at "rd"
  obtain ⟨ok, dx, tp, dg, kvs, h1, h2, h3, h4⟩ := id hb
  refine r_isC T.C_Code_is h1 ?_
  walk_at "rd"
  refine r_parts rfl ha fun tp1 ht1 => ?_
  walk_at "rd"
  refine r_parts rfl hb fun tp2 ht2 => ?_
  exact r_eqParts ok ht1 ht2 q
theorem ok_Code___eq__ (T : Txt K mg) : FnOk P w K mg base CX0 1 T.Code___eq___a T.Code___eq___d ["self", "other"] (sp_Code___eq__ T) := by
  refine T.Code___eq___f.ok sc_Code___eq__ (fun vs H Q E h => len_Code___eq__ T vs H Q E h) (fun cdv A outer s H vs Q E hr h => ⟨t_Code___eq__ T, PSs.nox ?_, pure_Code___eq__ T vs H Q E h⟩)
  have hu := hu64 hr
  exact (pss_one (ps_ret (pe_and (pe_callB call_isi (by rfl) T.n_isinstance (by decide +kernel) (pa_cons (pv 1) (pa_cons (pe_glob (by rfl) T.C_Code_g rfl) pa_nil))) (pe_one (pe_cmpR (op_eqU hu) (pe_fld (pv 0) rfl) (pe_fld (pv 1) rfl) (nomark _))))))

def cB16 (w : Nat) : CodeD := ⟨Str.ofString "0123456789ABCDEF", Str.ofString "", w, 4⟩
def cB32 (w : Nat) : CodeD := ⟨Str.ofString "ABCDEFGHIJKLMNOPQRSTUVWXYZ234567", Str.ofString "=", w, 5⟩
def cB64 (w : Nat) : CodeD := ⟨Str.ofString "ABCDEFGHIJKLMNOPQRSTUVWXYZabcdefghijklmnopqrstuvwxyz0123456789+/", Str.ofString "=", w, 6⟩
theorem new_of {sg pd : Str} {sb w : Nat} (hw : w ≤ 76) (h : 1 ≤ sb ∧ sb ≤ 6 ∧ sg.length = 2 ^ sb ∧ (∀ c ∈ sg.cps.toList, 33 ≤ c ∧ c ≤ 126 ∧ c ≠ 37) ∧ (∀ c ∈ pd.cps.toList, 33 ≤ c ∧ c ≤ 126 ∧ c ≠ 37) ∧ pd.length ≤ 1 ∧ sg.cps.toList.Nodup ∧ ∀ x ∈ pd.cps.toList, x ∉ sg.cps.toList) : CodeD.New ⟨sg, pd, w, sb⟩ :=
  ⟨⟨h.1, h.2.1, h.2.2.1, h.2.2.2.1, h.2.2.2.2.1, h.2.2.2.2.2.1, hw⟩, h.2.2.2.2.2.2.1, h.2.2.2.2.2.2.2⟩
theorem new16 {w : Nat} (hw : w ≤ 76) : (cB16 w).New := new_of hw (by decide +kernel)
theorem new32 {w : Nat} (hw : w ≤ 76) : (cB32 w).New := new_of hw (by decide +kernel)
theorem new64 {w : Nat} (hw : w ≤ 76) : (cB64 w).New := new_of hw (by decide +kernel)
/-- a known code is made, or its width is refused -/
def spBase (T : Txt K mg) (c0 : Nat → CodeD) : Sp := fun vs H Q E => ∃ wv t, vs = [.ref T.C_Code, wv] ∧ Kd H wv t ∧ ((∃ w : Nat, wv = .int w ∧ w ≤ 76 ∧ ∀ a H', Same H H' → H a = none → CodeAt T H' a (c0 w) → Q (.ref a) H') ∨
  (isW 0 76 wv = false ∧ ∀ d H', Same H H' → H' d = some (.xd [("name", .str (Str.ofString "width"))]) → E (.ref T.X_BadOption) (some d) H'))
theorem len_spBase (T : Txt K mg) (c0 : Nat → CodeD) (vs : List V) (H : Hp) (Q : VK) (E : XK) (h : spBase T c0 vs H Q E) : vs.length = 2 := by
  obtain ⟨_, _, rfl, _⟩ := h
  rfl
abbrev sp_Code_base16 (T : Txt K mg) : Sp := spBase T cB16
abbrev sp_Code_base32 (T : Txt K mg) : Sp := spBase T cB32
abbrev sp_Code_base64 (T : Txt K mg) : Sp := spBase T cB64
theorem len_Code_base16 (T : Txt K mg) (vs : List V) (H : Hp) (Q : VK) (E : XK) (h : sp_Code_base16 T vs H Q E) : vs.length = 2 := len_spBase T _ vs H Q E h
theorem len_Code_base32 (T : Txt K mg) (vs : List V) (H : Hp) (Q : VK) (E : XK) (h : sp_Code_base32 T vs H Q E) : vs.length = 2 := len_spBase T _ vs H Q E h
theorem len_Code_base64 (T : Txt K mg) (vs : List V) (H : Hp) (Q : VK) (E : XK) (h : sp_Code_base64 T vs H Q E) : vs.length = 2 := len_spBase T _ vs H Q E h
/-- a constructor's promise from what is wished of a new code -/
theorem init_of {T : Txt K mg} {H : Hp} {Q : Hp → Prop} {E : XK} {c : CodeD} {wv : V} {t : String} {x dx : Addr} {sg pd : Str} (nw : c.New) (kd : Kd H wv t) (nx : H x = none) (ndx : H dx = none) (hne : dx ≠ x) (esg : sg = c.sg) (epd : pd = c.pd)
    (h : (wv = .int c.wd ∧ ∀ H', Same H H' → CodeAt T H' x c → Q H') ∨ (isW 0 76 wv = false ∧ ∀ d H', Same H H' → H' d = some (.xd [("name", .str (Str.ofString "width"))]) → E (.ref T.X_BadOption) (some d) H')) :
    sp_Code___init__ T [.ref x, .str sg, .str pd, wv] (upd (upd H dx (.own x)) x (.ins T.C_Code dx [])) (fun v H3 => v = .non ∧ Q H3) E := by
  subst esg epd
  generalize hg1 : upd H dx _ = H1
  have s1 := same_of hg1 ndx
  have nx1 : H1 x = none := by rw [← hg1, upd_ne (Ne.symm hne)]; exact nx
  clear hg1
  generalize hg2 : upd H1 x _ = H2
  have s2 := same_of hg2 nx1
  have v2 := at_of hg2
  clear hg2
  refine ⟨x, dx, wv, t, c, rfl, v2, nw, (kd.same s1).same s2, ?_⟩
  rcases h with ⟨e, q⟩ | ⟨e, q⟩
  · exact .inl ⟨e, fun H3 s3 h3 => ⟨rfl, q H3 (same_mutB nx (s1.trans s2) s3) h3⟩⟩
  · exact .inr ⟨e, fun d H3 s3 h3 => q d H3 ((s1.trans s2).trans s3) h3⟩
theorem r_makeLK {i n m : Nat} {C : Addr} {sp : Sp} {gV : List V → List V → List V} {E : XK} {t tk : TA} {σ : S} {H : Hp} {Q : VK} (h0 : σ[i]? = some (some (.ref C))) (h : tMakeK C n m sp gV E t tk σ H Q) : tMakeLK i C n m sp gV E t tk σ H Q := ⟨h0, h⟩
def t_Code_base16 (T : Txt K mg) (E : XK) : TS := (tRet (tMakeLK 0 T.C_Code 1 (["width"] : List Str).length (sp_Code___init__ T) (fun vs zs => vs ++ ([.str (Str.ofString "")] ++ zs)) E (tCons (tC (.str (Str.ofString "0123456789ABCDEF"))) tNil) (tCons (tVar 1) tNil)))

theorem pure_Code_base16 (T : Txt K mg) (vs : List V) (H : Hp) (Q : VK) (E : XK) (h : sp_Code_base16 T vs H Q E) : t_Code_base16 T E { nx := fun _ H' => Q .non H', rt := Q } (start ["cls", "width"] vs) H := by
  obtain ⟨wv, t, rfl, kd, h⟩ := h
  unfold t_Code_base16
  walk_at "rd"
  refine r_makeLK rfl ?_
  walk_at "rd"
  refine ⟨rfl, rfl, fun x dx nx ndx hne => ?_⟩
  rcases h with ⟨w, rfl, hw, q⟩ | ⟨bad, q⟩
  · exact init_of (Q := fun H3 => Q (.ref x) H3) (new16 hw) kd nx ndx hne rfl rfl (.inl ⟨rfl, fun H' s h => q x H' s nx h⟩)
  · exact init_of (Q := fun H3 => Q (.ref x) H3) (new16 (w := 0) (by decide)) kd nx ndx hne rfl rfl (.inr ⟨bad, q⟩)
theorem ok_Code_base16 (T : Txt K mg) : FnOk P w K mg base (L2.CX P w) 5 T.Code_base16_a T.Code_base16_d ["cls", "width"] (sp_Code_base16 T) := by
  refine T.Code_base16_f.ok sc_Code_base16 (fun vs H Q E h => len_Code_base16 T vs H Q E h) (fun cdv A outer s H vs Q E hr h => ⟨t_Code_base16 T E, ?_, pure_Code_base16 T vs H Q E h⟩)
  have hu := hu64 hr
  exact (pss_one (ps_ret (pe_makeLK (i := 0) T.C_Code_m (ok_Code___init__ T) (hr.mono (by decide)) (by rfl) (.inl rfl) T.Code___init___k1_width.choose_spec (passes_call (takes_of rfl rfl rfl rfl) (fun _ _ _ _ h => h)) (pa_cons pe_str pa_nil) (pk_cons (pv 1) pk_nil))))

def t_Code_base32 (T : Txt K mg) (E : XK) : TS := (tRet (tMakeLK 0 T.C_Code 1 (["pad", "width"] : List Str).length (sp_Code___init__ T) (fun vs zs => vs ++ zs) E (tCons (tC (.str (Str.ofString "ABCDEFGHIJKLMNOPQRSTUVWXYZ234567"))) tNil) (tCons (tC (.str (Str.ofString "="))) (tCons (tVar 1) tNil))))

theorem pure_Code_base32 (T : Txt K mg) (vs : List V) (H : Hp) (Q : VK) (E : XK) (h : sp_Code_base32 T vs H Q E) : t_Code_base32 T E { nx := fun _ H' => Q .non H', rt := Q } (start ["cls", "width"] vs) H := by
  obtain ⟨wv, t, rfl, kd, h⟩ := h
  unfold t_Code_base32
  walk_at "rd"
  refine r_makeLK rfl ?_
  walk_at "rd"
  refine ⟨rfl, rfl, fun x dx nx ndx hne => ?_⟩
  rcases h with ⟨w, rfl, hw, q⟩ | ⟨bad, q⟩
  · exact init_of (Q := fun H3 => Q (.ref x) H3) (new32 hw) kd nx ndx hne rfl rfl (.inl ⟨rfl, fun H' s h => q x H' s nx h⟩)
  · exact init_of (Q := fun H3 => Q (.ref x) H3) (new32 (w := 0) (by decide)) kd nx ndx hne rfl rfl (.inr ⟨bad, q⟩)
theorem ok_Code_base32 (T : Txt K mg) : FnOk P w K mg base (L2.CX P w) 5 T.Code_base32_a T.Code_base32_d ["cls", "width"] (sp_Code_base32 T) := by
  refine T.Code_base32_f.ok sc_Code_base32 (fun vs H Q E h => len_Code_base32 T vs H Q E h) (fun cdv A outer s H vs Q E hr h => ⟨t_Code_base32 T E, ?_, pure_Code_base32 T vs H Q E h⟩)
  have hu := hu64 hr
  exact (pss_one (ps_ret (pe_makeLK (i := 0) T.C_Code_m (ok_Code___init__ T) (hr.mono (by decide)) (by rfl) (.inl rfl) T.Code___init___k1_pad_width.choose_spec (passes_call (takes_of rfl rfl rfl rfl) (fun _ _ _ _ h => h)) (pa_cons pe_str pa_nil) (pk_cons pe_str (pk_cons (pv 1) pk_nil)))))

def t_Code_base64 (T : Txt K mg) (E : XK) : TS := (tSeq (tAsg (tC (.str (Str.ofString "ABCDEFGHIJKLMNOPQRSTUVWXYZabcdefghijklmnopqrstuvwxyz0123456789+/"))) (gName 2))
    (tRet (tMakeLK 0 T.C_Code 1 (["pad", "width"] : List Str).length (sp_Code___init__ T) (fun vs zs => vs ++ zs) E (tCons (tVar 2) tNil) (tCons (tC (.str (Str.ofString "="))) (tCons (tVar 1) tNil)))))

theorem pure_Code_base64 (T : Txt K mg) (vs : List V) (H : Hp) (Q : VK) (E : XK) (h : sp_Code_base64 T vs H Q E) : t_Code_base64 T E { nx := fun _ H' => Q .non H', rt := Q } (start ["cls", "width", "signs"] vs) H := by
  obtain ⟨wv, t, rfl, kd, h⟩ := h
  unfold t_Code_base64
  walk_at "rd"
  refine r_makeLK rfl ?_
  walk_at "rd"
  refine ⟨rfl, rfl, fun x dx nx ndx hne => ?_⟩
  rcases h with ⟨w, rfl, hw, q⟩ | ⟨bad, q⟩
  · exact init_of (Q := fun H3 => Q (.ref x) H3) (new64 hw) kd nx ndx hne rfl rfl (.inl ⟨rfl, fun H' s h => q x H' s nx h⟩)
  · exact init_of (Q := fun H3 => Q (.ref x) H3) (new64 (w := 0) (by decide)) kd nx ndx hne rfl rfl (.inr ⟨bad, q⟩)
theorem ok_Code_base64 (T : Txt K mg) : FnOk P w K mg base (L2.CX P w) 5 T.Code_base64_a T.Code_base64_d ["cls", "width"] (sp_Code_base64 T) := by
  refine T.Code_base64_f.ok sc_Code_base64 (fun vs H Q E h => len_Code_base64 T vs H Q E h) (fun cdv A outer s H vs Q E hr h => ⟨t_Code_base64 T E, ?_, pure_Code_base64 T vs H Q E h⟩)
  have hu := hu64 hr
  exact (pss_cons (ps_set (i := 2) sc_Code_base64.nd rfl (.inl rfl) pe_str)
      (pss_one (ps_ret (pe_makeLK (i := 0) T.C_Code_m (ok_Code___init__ T) (hr.mono (by decide)) (by rfl) (.inl rfl) T.Code___init___k1_pad_width.choose_spec (passes_call (takes_of rfl rfl rfl rfl) (fun _ _ _ _ h => h)) (pa_cons (pv 2) pa_nil) (pk_cons pe_str (pk_cons (pv 1) pk_nil))))))

theorem txt1 : textC (cB64 0) [0] = [65, 65, 61, 61] := by decide +kernel

end
section
variable {w : World} {K : PySem.W.Frag} {mg : Str → Option Value} {base : Heap}
local macro_rules | `(tactic| walk_at "hc") => `(tactic| first
  | assumption
  | ((refine CodeAt.same (H := ?xH) ?xb ?xa); (case xa => assumption); (case xb => walk_at "hc")))
local macro_rules | `(tactic| walk_at "rd0") => `(tactic| first
  | ((with_reducible refine r_get (a := ?xa) (c := ?xc) ?x1 ?x2 ?_); (case x1 => rfl); (case x2 => walk_at "hc"))
  | ((with_reducible refine r_methC (a := ?xa) (c := ?xc) ?x1 ?x2 ?x3 ?_); (case x1 => rfl); (case x2 => walk_at "hc"); (case x3 => (intro _ _ _; rfl)))
  | (with_reducible refine r_fmtB ?_)
  | (with_reducible refine r_dget ?_)
  | (with_reducible refine r_m0 ?_)
  | (with_reducible refine r_makeK ?_)
  | (with_reducible refine r_cval ?_)
  | (with_reducible refine r_sfld ?_)
  | (with_reducible refine r_isiI ?_)
  | (with_reducible refine r_isiIB ?_)
  | (with_reducible refine r_isiS ?_)
  | (with_reducible refine r_inID ?_))

/-! ### known codes as the law asks for them -/
def cOf (k : Int) (w : Nat) : CodeD := if k = 16 then cB16 w else if k = 32 then cB32 w else cB64 w
def sp_l_named (T : Txt K mg) : Sp := fun vs H Q _ => ∃ (k : Int) (wv : V) (t : String), vs = [.int k, wv] ∧ Kd H wv t ∧ ((∃ w : Nat, wv = .int w ∧ w ≤ 76 ∧ ∀ a H', Same H H' → H a = none → CodeAt T H' a (cOf k w) → Q (.ref a) H') ∨
  (isW 0 76 wv = false ∧ ∀ H', Same H H' → Q (.str (Str.ofString "width")) H'))
theorem len_l_named (T : Txt K mg) (vs : List V) (H : Hp) (Q : VK) (E : XK) (h : sp_l_named T vs H Q E) : vs.length = 2 := by
  obtain ⟨_, _, _, rfl, _⟩ := h
  rfl
def t_l_named (T : Txt K mg) : TS := (tTryAs K (.ref T.X_BadOption) 2 (fun a cls d => (tRet (tXf a cls d T.X_BadOption "name" (tVar 2)))) (fun _ _ _ _ => False) (fun W => (tSeq (tIfS (tTest (tOp (rEqU K) (tVar 0) (tC (.int 16)))) (tRet (tCMethK T.C_Code (["width"] : List Str).length (sp_Code_base16 T) (fun vs zs => vs ++ zs) (WE W) (tC (.ref T.C_Code)) (tCons (tVar 1) tNil))) tNext)
    (tRet (tIf (tTest (tOp (rEqU K) (tVar 0) (tC (.int 32)))) (tCMethK T.C_Code (["width"] : List Str).length (sp_Code_base32 T) (fun vs zs => vs ++ zs) (WE W) (tC (.ref T.C_Code)) (tCons (tVar 1) tNil)) (tCMethK T.C_Code (["width"] : List Str).length (sp_Code_base64 T) (fun vs zs => vs ++ zs) (WE W) (tC (.ref T.C_Code)) (tCons (tVar 1) tNil)))))))

theorem pure_l_named (T : Txt K mg) (vs : List V) (H : Hp) (Q : VK) (E : XK) (h : sp_l_named T vs H Q E) : t_l_named T { nx := fun _ H' => Q .non H', rt := Q } (start ["_law_name", "_law_room", "e"] vs) H := by
  obtain ⟨k, wv, t, rfl, kd, h⟩ := h
  unfold t_l_named
  refine r_tryAs ?_
  have catch_ : ∀ (D : Ends) (d : Addr) (H1 : Hp), isW 0 76 wv = false → (∀ H', Same H H' → D.rt (.str (Str.ofString "width")) H') → Same H H1 → H1 d = some (.xd [("name", .str (Str.ofString "width"))]) →
      WE (wAs K (.ref T.X_BadOption) 2 (fun a cls d => tRet (tXf a cls d T.X_BadOption "name" (tVar 2))) (fun _ _ _ _ => False) D) [some (.int k), some wv, none] (.ref T.X_BadOption) (some d) H1 := by
    intro D d H1 bad q s1 h1
    refine r_wAs T.X_BadOption_F.te fun a0 na0 => ?_
    refine r_ret (r_xf (v := .str (Str.ofString "width")) rfl h1 (by simp [List.lookup]) ?_)
    exact q H1 s1
  unfold cOf at h
  walk_at "rd"
  refine r_iteD (fun h1 => ?_) (fun h1 => ?_)
  · simp only [if_pos h1] at h
    walk_at "rd"
    refine r_cmethK ?_
    walk_at "rd"
    refine ⟨rfl, wv, t, rfl, kd, ?_⟩
    rcases h with h | ⟨bad, q⟩
    · exact .inl h
    · exact .inr ⟨bad, fun d H1 s1 h1 => catch_ _ d H1 bad q s1 h1⟩
  simp only [if_neg h1] at h
  walk_at "rd"
  refine r_iteD (fun h2 => ?_) (fun h2 => ?_)
  · simp only [if_pos h2] at h
    walk_at "rd"
    refine r_cmethK ?_
    walk_at "rd"
    refine ⟨rfl, wv, t, rfl, kd, ?_⟩
    rcases h with h | ⟨bad, q⟩
    · exact .inl h
    · exact .inr ⟨bad, fun d H1 s1 h1 => catch_ _ d H1 bad q s1 h1⟩
  · simp only [if_neg h2] at h
    walk_at "rd"
    refine r_cmethK ?_
    walk_at "rd"
    refine ⟨rfl, wv, t, rfl, kd, ?_⟩
    rcases h with h | ⟨bad, q⟩
    · exact .inl h
    · exact .inr ⟨bad, fun d H1 s1 h1 => catch_ _ d H1 bad q s1 h1⟩
theorem ok_l_named (T : Txt K mg) : FnOk P w K mg base CX0 6 T.l_named_a T.l_named_d ["_law_name", "_law_room"] (sp_l_named T) := by
  refine T.l_named_f.ok sc_l_named (fun vs H Q E h => len_l_named T vs H Q E h) (fun cdv A outer s H vs Q E hr h => ⟨t_l_named T, PSs.nox ?_, pure_l_named T vs H Q E h⟩)
  have hu := hu64 hr
  exact (pss_one (ps_try_as (i := 2) (tb := fun W => (tSeq (tIfS (tTest (tOp (rEqU K) (tVar 0) (tC (.int 16)))) (tRet (tCMethK T.C_Code (["width"] : List Str).length (sp_Code_base16 T) (fun vs zs => vs ++ zs) (WE W) (tC (.ref T.C_Code)) (tCons (tVar 1) tNil))) tNext)
    (tRet (tIf (tTest (tOp (rEqU K) (tVar 0) (tC (.int 32)))) (tCMethK T.C_Code (["width"] : List Str).length (sp_Code_base32 T) (fun vs zs => vs ++ zs) (WE W) (tC (.ref T.C_Code)) (tCons (tVar 1) tNil)) (tCMethK T.C_Code (["width"] : List Str).length (sp_Code_base64 T) (fun vs zs => vs ++ zs) (WE W) (tC (.ref T.C_Code)) (tCons (tVar 1) tNil)))))) (ts := fun a cls d => (tRet (tXf a cls d T.X_BadOption "name" (tVar 2)))) (Wout := (fun _ _ _ _ => False)) rfl rfl sc_l_named.nd rfl rfl ⟨by rfl, by decide, Or.inl T.X_BadOption_g⟩ takes0 (fun W pn xe tk po => (pss_cons (ps_if (pt_cmpR (op_eqU hu) (pv 0) pe_int (nomark _)) (pss_one (ps_ret (pe_cmethK (pe_glob (by rfl) T.C_Code_g rfl) T.C_Code_r T.Code_base16_c (ok_Code_base16 T) (hr.mono (by decide)) T.Code_base16_k0_width.choose_spec (fun σ => passAt tk σ) (pk_cons (pv 1) pk_nil)))) pss_nil)
      (pss_one (ps_ret (pe_ifExp (pt_cmpR (op_eqU hu) (pv 0) pe_int (nomark _)) (pe_cmethK (pe_glob (by rfl) T.C_Code_g rfl) T.C_Code_r T.Code_base32_c (ok_Code_base32 T) (hr.mono (by decide)) T.Code_base32_k0_width.choose_spec (fun σ => passAt tk σ) (pk_cons (pv 1) pk_nil)) (pe_cmethK (pe_glob (by rfl) T.C_Code_g rfl) T.C_Code_r T.Code_base64_c (ok_Code_base64 T) (hr.mono (by decide)) T.Code_base64_k0_width.choose_spec (fun σ => passAt tk σ) (pk_cons (pv 1) pk_nil))))))) (fun a oe cls d pn hz hf => (pss_one (ps_ret (pe_xf T.X_BadOption_F.xf T.X_BadOption_F.noF hz hf (pv 2)))))))

theorem cOf_new {k : Int} {w : Nat} (h : w ≤ 76) : (cOf k w).New := by
  unfold cOf
  split
  · exact new16 h
  · split
    · exact new32 h
    · exact new64 h
theorem cOf_wd (k : Int) (w : Nat) : (cOf k w).wd = w := by
  unfold cOf
  split
  · rfl
  · split <;> rfl
def sp_l_right (T : Txt K mg) : Sp := fun vs H Q _ => ∃ (b : Addr) (n : Nat) (k : Int) (sg pd : Str), vs = [.ref b, .int k, .str sg, .str pd] ∧ BagAt H b (n + 2) ∧ (∀ w, sg = (cOf k w).sg ∧ pd = (cOf k w).pd) ∧ ∀ H', SameB b H H' → BagAt H' b n → Q (.bl true) H'
theorem len_l_right (T : Txt K mg) (vs : List V) (H : Hp) (Q : VK) (E : XK) (h : sp_l_right T vs H Q E) : vs.length = 4 := by
  obtain ⟨_, _, _, _, _, rfl, _⟩ := h
  rfl
def t_l_right (T : Txt K mg) : TS := (tSeq (tAsg (tCall (sp_l_take T) [] E0 (tCons (tVar 0) (tCons (tC (.int 77)) tNil))) (gName 4))
    (tSeq (tIfS (tTest (tOp (rNeOwn T.C_Code (sp_Code___eq__ T) E0) (tCall (sp_l_named T) [] E0 (tCons (tVar 1) (tCons (tVar 4) tNil))) (tMakeK T.C_Code 1 (["pad", "width"] : List Str).length (sp_Code___init__ T) (fun vs zs => vs ++ zs) E0 (tCons (tVar 2) tNil) (tCons (tVar 3) (tCons (tVar 4) tNil))))) (tRet (tC (.bl false))) tNext)
    (tRet (tOp (rEqU K) (tCall (sp_l_named T) [] E0 (tCons (tVar 1) (tCons (tCall (sp_l_of T) [] E0 (tCons (tVar 0) (tCons (tLst (tCons (tUn rNegI (tC (.int 1))) (tCons (tC (.int 77)) (tCons (tC .non) (tCons (tC (.bl true)) (tCons (tC (.str (Str.ofString "0"))) (tCons (tOp rPowI (tC (.int 10)) (tC (.int 30))) tNil))))))) tNil))) tNil))) (tC (.str (Str.ofString "width")))))))

theorem pure_l_right (T : Txt K mg) (vs : List V) (H : Hp) (Q : VK) (E : XK) (h : sp_l_right T vs H Q E) : t_l_right T { nx := fun _ H' => Q .non H', rt := Q } (start ["_law_bag_here", "_law_name", "_law_signs", "_law_last", "_law_room"] vs) H := by
  obtain ⟨b, n, k, sg, pd, rfl, hb, hk, q⟩ := h
  unfold t_l_right
  walk_at "rd"
  refine ⟨b, 77, n + 1, rfl, hb, by decide, by decide, fun r H1 r0 r1 hb1 sb1 => ?_⟩
  obtain ⟨w, rfl⟩ : ∃ w : Nat, r = w := ⟨r.toNat, by omega⟩
  have hw : w ≤ 76 := by omega
  walk_at "rd"
  refine ⟨k, .int w, "int", rfl, .int _, .inl ⟨w, rfl, hw, fun a H2 s2 na ha => ?_⟩⟩
  walk_at "rd"
  refine ⟨rfl, rfl, fun x dx nx ndx hne => ?_⟩
  have e1 := hk w
  have ew := cOf_wd k w
  refine init_of (c := cOf k w) (cOf_new hw) (.int (w : Int)) nx ndx hne e1.1 e1.2 (.inl ⟨by rw [ew], fun H3 s3 hx => ?_⟩)
  have ha3 := ha.same s3
  obtain ⟨_, dx1, tp1, dg1, kvs1, g1, _⟩ := id ha3
  obtain ⟨_, dx2, tp2, dg2, kvs2, g2, _⟩ := id hx
  refine ⟨a, x, dx1, dx2, _, _, rfl, rfl, g1, g2, a, x, cOf k w, rfl, ha3, hx, true, rfl, ?_⟩
  have s13 := s2.trans s3
  have hb3 := hb1.same s13
  walk_at "rd"
  refine ⟨1, rfl, ?_⟩
  walk_at "rd"
  refine And.intro (by show 6 ≤ sizeLine; decide) ?_
  intro l nl
  generalize hg : upd _ l _ = H4
  have s4 := same_of hg nl
  have v4 := at_of hg
  clear hg
  have lb : l ≠ b := hb3.ne nl
  walk_at "rd"
  refine ⟨b, l, _, n, rfl, ql v4, lb, hb3.same s4, by show 0 < 6; decide, by show 6 < 1000000; decide, fun jj odd H5 hodd hb5 sb5 => ?_⟩
  obtain ⟨kd, hkd, bad⟩ : ∃ t, Kd H5 odd t ∧ isW 0 76 odd = false := by
    match jj, hodd with
    | 0, e => rw [← Option.some.inj e]; exact ⟨_, .int _, by decide⟩
    | 1, e => rw [← Option.some.inj e]; exact ⟨_, .int _, by decide⟩
    | 2, e => rw [← Option.some.inj e]; exact ⟨_, .non, rfl⟩
    | 3, e => rw [← Option.some.inj e]; exact ⟨_, .bl _, rfl⟩
    | 4, e => rw [← Option.some.inj e]; exact ⟨_, .str _, rfl⟩
    | 5, e => rw [← Option.some.inj e]; exact ⟨_, .int _, by decide +kernel⟩
    | jj + 6, e => cases e
  walk_at "rd"
  refine ⟨k, odd, kd, rfl, hkd, .inr ⟨bad, fun H6 s6 => ?_⟩⟩
  walk_at "rd"
  rw [decide_eq_true rfl]
  exact q H6 (sb1.trans ((toB (s13.trans s4)).trans (sb5.trans (toB s6)))) (hb5.same s6)
theorem ok_l_right (T : Txt K mg) : FnOk P w K mg base CX0 7 T.l_right_a T.l_right_d ["_law_bag_here", "_law_name", "_law_signs", "_law_last"] (sp_l_right T) := by
  refine T.l_right_f.ok sc_l_right (fun vs H Q E h => len_l_right T vs H Q E h) (fun cdv A outer s H vs Q E hr h => ⟨t_l_right T, PSs.nox ?_, pure_l_right T vs H Q E h⟩)
  have hu := hu64 hr
  exact (pss_cons (ps_set (i := 4) sc_l_right.nd rfl (.inl rfl) (pe_call (ok_l_take T) (hr.mono (by decide)) (by rfl) T.l_take_g T.l_take_f.kp T.l_take_b .nil pass0 (pa_cons (pv 0) (pa_cons pe_int pa_nil))))
      (pss_cons (ps_if (pt_cmpR (op_neOwn (ok_Code___eq__ T) (hr.mono (by decide)) T.C_Code_ne T.Code___eq___m T.Code___eq___b pass0) (pe_call (ok_l_named T) (hr.mono (by decide)) (by rfl) T.l_named_g T.l_named_f.kp T.l_named_b .nil pass0 (pa_cons (pv 1) (pa_cons (pv 4) pa_nil))) (pe_makeK T.C_Code_m (ok_Code___init__ T) (hr.mono (by decide)) (by rfl) T.C_Code_g T.Code___init___k1_pad_width.choose_spec passL (pa_cons (pv 2) pa_nil) (pk_cons (pv 3) (pk_cons (pv 4) pk_nil))) (nomark _)) (pss_one (ps_ret pe_bl)) pss_nil)
      (pss_one (ps_ret (pe_cmpR (op_eqU hu) (pe_call (ok_l_named T) (hr.mono (by decide)) (by rfl) T.l_named_g T.l_named_f.kp T.l_named_b .nil pass0 (pa_cons (pv 1) (pa_cons (pe_call (ok_l_of T) (hr.mono (by decide)) (by rfl) T.l_of_g T.l_of_f.kp T.l_of_b .nil pass0 (pa_cons (pv 0) (pa_cons (pe_lst (pa_cons (pe_un un_neg pe_int) (pa_cons pe_int (pa_cons pe_non (pa_cons pe_bl (pa_cons pe_str (pa_cons (pe_op op_pow pe_int pe_int) pa_nil))))))) pa_nil))) pa_nil))) pe_str (nomark _))))))


end
section
variable {w : World} {K : PySem.W.Frag} {mg : Str → Option Value} {base : Heap}
local macro_rules | `(tactic| walk_at "hc") => `(tactic| first
  | assumption
  | ((refine CodeAt.same (H := ?xH) ?xb ?xa); (case xa => assumption); (case xb => walk_at "hc")))
local macro_rules | `(tactic| walk_at "rd0") => `(tactic| first
  | ((with_reducible refine r_get (a := ?xa) (c := ?xc) ?x1 ?x2 ?_); (case x1 => rfl); (case x2 => walk_at "hc"))
  | ((with_reducible refine r_methC (a := ?xa) (c := ?xc) ?x1 ?x2 ?x3 ?_); (case x1 => rfl); (case x2 => walk_at "hc"); (case x3 => (intro _ _ _; rfl)))
  | (with_reducible refine r_fmtB ?_)
  | (with_reducible refine r_dget ?_)
  | (with_reducible refine r_m0 ?_)
  | (with_reducible refine r_makeK ?_)
  | (with_reducible refine r_cval ?_)
  | (with_reducible refine r_sfld ?_)
  | (with_reducible refine r_isiI ?_)
  | (with_reducible refine r_isiIB ?_)
  | (with_reducible refine r_isiS ?_)
  | (with_reducible refine r_inID ?_))

/-! ### texts by hand -/
def cAB : CodeD := ⟨Str.ofString "ab", Str.ofString "", 8, 1⟩
theorem newAB : cAB.New := new_of (by decide) (by decide +kernel)
theorem txA : textC (cB64 0) [0] = [65, 65, 61, 61] := by decide +kernel
theorem txB : textC (cB64 0) [255, 255] = [47, 47, 56, 61] := by decide +kernel
theorem txC : textC (cB64 0) [0, 16, 131] = [65, 66, 67, 68] := by decide +kernel
theorem txD : textC (cB64 0) [255, 239, 191] = [47, 43, 43, 47] := by decide +kernel
theorem txE : textC (cB32 0) [0] = [65, 65, 61, 61, 61, 61, 61, 61] := by decide +kernel
theorem txF : textC (cB32 0) [102, 111] = [77, 90, 88, 81, 61, 61, 61, 61] := by decide +kernel
theorem txG : textC (cB32 0) [255, 255, 255, 255, 255] = [55, 55, 55, 55, 55, 55, 55, 55] := by decide +kernel
theorem txH : textC (cB32 0) [] = [] := by decide +kernel
theorem txI : textC (cB16 3) [1, 171, 255] = [48, 49, 65, 10, 66, 70, 70] := by decide +kernel
theorem txJ : textC cAB [5, 128] = [97, 97, 97, 97, 97, 98, 97, 98, 10, 98, 97, 97, 97, 97, 97, 97, 97] := by decide +kernel
def texts : List (List Nat) := [[65, 65, 61, 61], [47, 47, 56, 61], [65, 66, 67, 68], [47, 43, 43, 47], [65, 65, 61, 61, 61, 61, 61, 61], [77, 90, 88, 81, 61, 61, 61, 61], [55, 55, 55, 55, 55, 55, 55, 55], [], [48, 49, 65, 10, 66, 70, 70], [97, 97, 97, 97, 97, 98, 97, 98, 10, 98, 97, 97, 97, 97, 97, 97, 97]]
def sp_l_by_hand (T : Txt K mg) : Sp := fun vs H Q _ => vs = [] ∧ ∀ H', Same H H' → Q (.bl true) H'
theorem len_l_by_hand (T : Txt K mg) (vs : List V) (H : Hp) (Q : VK) (E : XK) (h : sp_l_by_hand T vs H Q E) : vs.length = 0 := by
  obtain ⟨rfl, _⟩ := h
  rfl
def t_l_by_hand (T : Txt K mg) : TS := (tSeq (tPar 0 1 (tCons (tCMethK T.C_Code ([] : List Str).length (sp_Code_base64 T) (fun vs zs => vs ++ (zs ++ [.int 0])) (fun _ => E0) (tC (.ref T.C_Code)) tNil) (tCons (tCMethK T.C_Code ([] : List Str).length (sp_Code_base32 T) (fun vs zs => vs ++ (zs ++ [.int 0])) (fun _ => E0) (tC (.ref T.C_Code)) tNil) tNil)))
    (tSeq (tAsg (tLst (tCons (tCall (sp_text_of T) [] E0 (tCons (tVar 0) (tCons (tLst (tCons (tC (.int 0)) tNil)) tNil))) (tCons (tCall (sp_text_of T) [] E0 (tCons (tVar 0) (tCons (tLst (tCons (tC (.int 255)) (tCons (tC (.int 255)) tNil))) tNil))) (tCons (tCall (sp_text_of T) [] E0 (tCons (tVar 0) (tCons (tLst (tCons (tC (.int 0)) (tCons (tC (.int 16)) (tCons (tC (.int 131)) tNil)))) tNil))) (tCons (tCall (sp_text_of T) [] E0 (tCons (tVar 0) (tCons (tLst (tCons (tC (.int 255)) (tCons (tC (.int 239)) (tCons (tC (.int 191)) tNil)))) tNil))) tNil))))) (gName 2))
    (tSeq (tAsg (tOp (rAddU K) (tVar 2) (tLst (tCons (tCall (sp_text_of T) [] E0 (tCons (tVar 1) (tCons (tLst (tCons (tC (.int 0)) tNil)) tNil))) (tCons (tCall (sp_text_of T) [] E0 (tCons (tVar 1) (tCons (tLst (tCons (tC (.int 102)) (tCons (tC (.int 111)) tNil))) tNil))) (tCons (tCall (sp_text_of T) [] E0 (tCons (tVar 1) (tCons (tOp (rMulU K) (tLst (tCons (tC (.int 255)) tNil)) (tC (.int 5))) tNil))) (tCons (tCall (sp_text_of T) [] E0 (tCons (tVar 1) (tCons (tLst tNil) tNil))) tNil)))))) (gName 2))
    (tSeq (tAsg (tOp (rAddU K) (tVar 2) (tLst (tCons (tCall (sp_text_of T) [] E0 (tCons (tCMethK T.C_Code (["width"] : List Str).length (sp_Code_base16 T) (fun vs zs => vs ++ zs) (fun _ => E0) (tC (.ref T.C_Code)) (tCons (tC (.int 3)) tNil)) (tCons (tLst (tCons (tC (.int 1)) (tCons (tC (.int 171)) (tCons (tC (.int 255)) tNil)))) tNil))) (tCons (tCall (sp_text_of T) [] E0 (tCons (tMakeK T.C_Code 1 (["width"] : List Str).length (sp_Code___init__ T) (fun vs zs => vs ++ ([.str (Str.ofString "")] ++ zs)) E0 (tCons (tC (.str (Str.ofString "ab"))) tNil) (tCons (tC (.int 8)) tNil)) (tCons (tLst (tCons (tC (.int 5)) (tCons (tC (.int 128)) tNil))) tNil))) tNil)))) (gName 2))
    (tSeq (tAsg (tLst (tCons (tC (.str (Str.ofString "AA=="))) (tCons (tC (.str (Str.ofString "//8="))) (tCons (tC (.str (Str.ofString "ABCD"))) (tCons (tC (.str (Str.ofString "/++/"))) (tCons (tC (.str (Str.ofString "AA======"))) (tCons (tC (.str (Str.ofString "MZXQ===="))) (tCons (tC (.str (Str.ofString "77777777"))) (tCons (tC (.str (Str.ofString ""))) (tCons (tC (.str (Str.ofString "01A\nBFF"))) (tCons (tC (.str (Str.ofString "aaaaabab\nbaaaaaaa"))) tNil))))))))))) (gName 3))
    (tRet (tOp (rEqU K) (tVar 2) (tVar 3))))))))

theorem pure_l_by_hand (T : Txt K mg) (vs : List V) (H : Hp) (Q : VK) (E : XK) (h : sp_l_by_hand T vs H Q E) : t_l_by_hand T { nx := fun _ H' => Q .non H', rt := Q } (start ["_law_big", "_law_small", "_law_found", "_law_due"] vs) H := by
  obtain ⟨rfl, q⟩ := h
  unfold t_l_by_hand
  walk_at "rd"
  refine r_cmethK ?_
  walk_at "rd"
  refine ⟨rfl, .int 0, "int", rfl, .int _, .inl ⟨0, rfl, by decide, fun b64 H1 s1 nb64 big => ?_⟩⟩
  walk_at "rd"
  refine r_cmethK ?_
  walk_at "rd"
  refine ⟨rfl, .int 0, "int", rfl, .int _, .inl ⟨0, rfl, by decide, fun b32 H2 s2 nb32 small => ?_⟩⟩
  replace big := big.same s2
  have S := s1.trans s2
  walk_at "rd"
  refine And.intro (smallS (by decide)) ?_
  intro l1 nl1
  generalize hg1 : upd _ l1 _ = G1
  have s1 := same_of hg1 nl1
  have v1 := at_of hg1
  clear hg1
  replace big := big.same s1
  replace small := small.same s1
  replace S := S.trans s1
  walk_at "rd"
  refine ⟨_, cB64 0, l1, [0], rfl, big, v1, by decide, (by show ∀ x ∈ ([0] : List Int), 0 ≤ x ∧ x ≤ 255; decide), fun G2 s2 => ?_⟩
  replace big := big.same s2
  replace small := small.same s2
  replace S := S.trans s2
  walk_at "rd"
  refine And.intro (smallS (by decide)) ?_
  intro l3 nl3
  generalize hg3 : upd _ l3 _ = G3
  have s3 := same_of hg3 nl3
  have v3 := at_of hg3
  clear hg3
  replace big := big.same s3
  replace small := small.same s3
  replace S := S.trans s3
  walk_at "rd"
  refine ⟨_, cB64 0, l3, [255, 255], rfl, big, v3, by decide, (by show ∀ x ∈ ([255, 255] : List Int), 0 ≤ x ∧ x ≤ 255; decide), fun G4 s4 => ?_⟩
  replace big := big.same s4
  replace small := small.same s4
  replace S := S.trans s4
  walk_at "rd"
  refine And.intro (smallS (by decide)) ?_
  intro l5 nl5
  generalize hg5 : upd _ l5 _ = G5
  have s5 := same_of hg5 nl5
  have v5 := at_of hg5
  clear hg5
  replace big := big.same s5
  replace small := small.same s5
  replace S := S.trans s5
  walk_at "rd"
  refine ⟨_, cB64 0, l5, [0, 16, 131], rfl, big, v5, by decide, (by show ∀ x ∈ ([0, 16, 131] : List Int), 0 ≤ x ∧ x ≤ 255; decide), fun G6 s6 => ?_⟩
  replace big := big.same s6
  replace small := small.same s6
  replace S := S.trans s6
  walk_at "rd"
  refine And.intro (smallS (by decide)) ?_
  intro l7 nl7
  generalize hg7 : upd _ l7 _ = G7
  have s7 := same_of hg7 nl7
  have v7 := at_of hg7
  clear hg7
  replace big := big.same s7
  replace small := small.same s7
  replace S := S.trans s7
  walk_at "rd"
  refine ⟨_, cB64 0, l7, [255, 239, 191], rfl, big, v7, by decide, (by show ∀ x ∈ ([255, 239, 191] : List Int), 0 ≤ x ∧ x ≤ 255; decide), fun G8 s8 => ?_⟩
  replace big := big.same s8
  replace small := small.same s8
  replace S := S.trans s8
  walk_at "rd"
  refine And.intro (smallS (by decide)) ?_
  intro l9 nl9
  generalize hg9 : upd _ l9 _ = G9
  have s9 := same_of hg9 nl9
  have v9 := at_of hg9
  clear hg9
  replace big := big.same s9
  replace small := small.same s9
  replace S := S.trans s9
  have fnd := v9
  walk_at "rd"
  refine And.intro (smallS (by decide)) ?_
  intro l10 nl10
  generalize hg10 : upd _ l10 _ = G10
  have s10 := same_of hg10 nl10
  have v10 := at_of hg10
  clear hg10
  replace big := big.same s10
  replace small := small.same s10
  replace fnd := s10 _ _ fnd
  replace S := S.trans s10
  walk_at "rd"
  refine ⟨_, cB32 0, l10, [0], rfl, small, v10, by decide, (by show ∀ x ∈ ([0] : List Int), 0 ≤ x ∧ x ≤ 255; decide), fun G11 s11 => ?_⟩
  replace big := big.same s11
  replace small := small.same s11
  replace fnd := s11 _ _ fnd
  replace S := S.trans s11
  walk_at "rd"
  refine And.intro (smallS (by decide)) ?_
  intro l12 nl12
  generalize hg12 : upd _ l12 _ = G12
  have s12 := same_of hg12 nl12
  have v12 := at_of hg12
  clear hg12
  replace big := big.same s12
  replace small := small.same s12
  replace fnd := s12 _ _ fnd
  replace S := S.trans s12
  walk_at "rd"
  refine ⟨_, cB32 0, l12, [102, 111], rfl, small, v12, by decide, (by show ∀ x ∈ ([102, 111] : List Int), 0 ≤ x ∧ x ≤ 255; decide), fun G13 s13 => ?_⟩
  replace big := big.same s13
  replace small := small.same s13
  replace fnd := s13 _ _ fnd
  replace S := S.trans s13
  walk_at "rd"
  refine And.intro (smallS (by decide)) ?_
  intro l14 nl14
  generalize hg14 : upd _ l14 _ = G14
  have s14 := same_of hg14 nl14
  have v14 := at_of hg14
  clear hg14
  replace big := big.same s14
  replace small := small.same s14
  replace fnd := s14 _ _ fnd
  replace S := S.trans s14
  walk_at "rd"
  refine r_mulUL (K := K) v14 ⟨by decide, by decide⟩ (smallS (by decide)) fun l15 nl15 => ?_
  generalize hg15 : upd _ l15 _ = G15
  have s15 := same_of hg15 nl15
  have v15 : G15 l15 = some (.lst ([255, 255, 255, 255, 255].map V.int)) := at_of hg15
  clear hg15
  replace big := big.same s15
  replace small := small.same s15
  replace fnd := s15 _ _ fnd
  replace S := S.trans s15
  walk_at "rd"
  refine ⟨_, cB32 0, l15, [255, 255, 255, 255, 255], rfl, small, v15, by decide, (by show ∀ x ∈ ([255, 255, 255, 255, 255] : List Int), 0 ≤ x ∧ x ≤ 255; decide), fun G16 s16 => ?_⟩
  replace big := big.same s16
  replace small := small.same s16
  replace fnd := s16 _ _ fnd
  replace S := S.trans s16
  walk_at "rd"
  refine And.intro (smallS (by decide)) ?_
  intro l17 nl17
  generalize hg17 : upd _ l17 _ = G17
  have s17 := same_of hg17 nl17
  have v17 := at_of hg17
  clear hg17
  replace big := big.same s17
  replace small := small.same s17
  replace fnd := s17 _ _ fnd
  replace S := S.trans s17
  walk_at "rd"
  refine ⟨_, cB32 0, l17, [], rfl, small, v17, by decide, (by show ∀ x ∈ ([] : List Int), 0 ≤ x ∧ x ≤ 255; decide), fun G18 s18 => ?_⟩
  replace big := big.same s18
  replace small := small.same s18
  replace fnd := s18 _ _ fnd
  replace S := S.trans s18
  walk_at "rd"
  refine And.intro (smallS (by decide)) ?_
  intro l19 nl19
  generalize hg19 : upd _ l19 _ = G19
  have s19 := same_of hg19 nl19
  have v19 := at_of hg19
  clear hg19
  replace big := big.same s19
  replace small := small.same s19
  replace fnd := s19 _ _ fnd
  replace S := S.trans s19
  refine r_addUL fnd v19 (smallS (by decide)) fun l20 nl20 => ?_
  generalize hg20 : upd _ l20 _ = G20
  have s20 := same_of hg20 nl20
  have v20 := at_of hg20
  clear hg20
  replace big := big.same s20
  replace small := small.same s20
  replace S := S.trans s20
  clear fnd
  have fnd := v20
  walk_at "rd"
  refine r_cmethK ?_
  walk_at "rd"
  refine ⟨rfl, .int 3, "int", rfl, .int _, .inl ⟨3, rfl, by decide, fun c16 G21 s21 nc16 h16 => ?_⟩⟩
  replace big := big.same s21
  replace small := small.same s21
  replace fnd := s21 _ _ fnd
  replace S := S.trans s21
  walk_at "rd"
  refine And.intro (smallS (by decide)) ?_
  intro l22 nl22
  generalize hg22 : upd _ l22 _ = G22
  have s22 := same_of hg22 nl22
  have v22 := at_of hg22
  clear hg22
  replace big := big.same s22
  replace small := small.same s22
  replace h16 := h16.same s22
  replace fnd := s22 _ _ fnd
  replace S := S.trans s22
  walk_at "rd"
  refine ⟨_, cB16 3, l22, [1, 171, 255], rfl, h16, v22, by decide, (by show ∀ x ∈ ([1, 171, 255] : List Int), 0 ≤ x ∧ x ≤ 255; decide), fun G23 s23 => ?_⟩
  replace big := big.same s23
  replace small := small.same s23
  replace h16 := h16.same s23
  replace fnd := s23 _ _ fnd
  replace S := S.trans s23
  walk_at "rd"
  refine ⟨rfl, rfl, fun xab dxab nxab ndxab hneab => ?_⟩
  refine init_of (c := cAB) newAB (.int 8) nxab ndxab hneab rfl rfl (.inl ⟨rfl, fun G24 s24 hab => ?_⟩)
  replace big := big.same s24
  replace small := small.same s24
  replace h16 := h16.same s24
  replace fnd := s24 _ _ fnd
  replace S := S.trans s24
  walk_at "rd"
  refine And.intro (smallS (by decide)) ?_
  intro l25 nl25
  generalize hg25 : upd _ l25 _ = G25
  have s25 := same_of hg25 nl25
  have v25 := at_of hg25
  clear hg25
  replace big := big.same s25
  replace small := small.same s25
  replace h16 := h16.same s25
  replace hab := hab.same s25
  replace fnd := s25 _ _ fnd
  replace S := S.trans s25
  walk_at "rd"
  refine ⟨_, cAB, l25, [5, 128], rfl, hab, v25, by decide, (by show ∀ x ∈ ([5, 128] : List Int), 0 ≤ x ∧ x ≤ 255; decide), fun G26 s26 => ?_⟩
  replace big := big.same s26
  replace small := small.same s26
  replace h16 := h16.same s26
  replace hab := hab.same s26
  replace fnd := s26 _ _ fnd
  replace S := S.trans s26
  walk_at "rd"
  refine And.intro (smallS (by decide)) ?_
  intro l27 nl27
  generalize hg27 : upd _ l27 _ = G27
  have s27 := same_of hg27 nl27
  have v27 := at_of hg27
  clear hg27
  replace big := big.same s27
  replace small := small.same s27
  replace h16 := h16.same s27
  replace hab := hab.same s27
  replace fnd := s27 _ _ fnd
  replace S := S.trans s27
  refine r_addUL fnd v27 (smallS (by decide)) fun l28 nl28 => ?_
  generalize hg28 : upd _ l28 _ = G28
  have s28 := same_of hg28 nl28
  have v28 := at_of hg28
  clear hg28
  replace big := big.same s28
  replace small := small.same s28
  replace h16 := h16.same s28
  replace hab := hab.same s28
  replace S := S.trans s28
  clear fnd
  have fnd := v28
  walk_at "rd"
  refine And.intro (smallS (by decide)) ?_
  intro l29 nl29
  generalize hg29 : upd _ l29 _ = G29
  have s29 := same_of hg29 nl29
  have v29 := at_of hg29
  clear hg29
  replace big := big.same s29
  replace small := small.same s29
  replace h16 := h16.same s29
  replace hab := hab.same s29
  replace fnd := s29 _ _ fnd
  replace S := S.trans s29
  walk_at "rd"
  have low : ∀ l : List (List Nat), (l.all fun x => x.all (· < 1000)) = true → StrsLo (l.map tx) := fun l h => by
    intro z hz c hc
    obtain ⟨x, hx, rfl⟩ := List.mem_map.mp hz
    rw [tx_list] at hc
    have := List.all_eq_true.mp (List.all_eq_true.mp h x hx) c hc
    have := of_decide_eq_true this
    omega
  have ef : ∀ a, G29 a = some (.lst [.str (tx (textC (cB64 0) [0])), .str (tx (textC (cB64 0) [255, 255])), .str (tx (textC (cB64 0) [0, 16, 131])), .str (tx (textC (cB64 0) [255, 239, 191])), .str (tx (textC (cB32 0) [0])), .str (tx (textC (cB32 0) [102, 111])), .str (tx (textC (cB32 0) [255, 255, 255, 255, 255])), .str (tx (textC (cB32 0) [])), .str (tx (textC (cB16 3) [1, 171, 255])), .str (tx (textC cAB [5, 128]))]) → G29 a = some (.lst (((texts).map tx).map V.str)) := fun a h => by
    rw [h, txA, txB, txC, txD, txE, txF, txG, txH, txI, txJ]
    rfl
  refine r_eqUT (ql (ef _ fnd)) (ys := texts.map tx) (ql v29) (low _ (by decide +kernel)) (low _ (by decide +kernel)) ?_
  rw [decide_eq_true rfl]
  exact q _ S
theorem ok_l_by_hand (T : Txt K mg) : FnOk P w K mg base CX0 9 T.l_by_hand_a T.l_by_hand_d [] (sp_l_by_hand T) := by
  refine T.l_by_hand_f.ok sc_l_by_hand (fun vs H Q E h => len_l_by_hand T vs H Q E h) (fun cdv A outer s H vs Q E hr h => ⟨t_l_by_hand T, PSs.nox ?_, pure_l_by_hand T vs H Q E h⟩)
  have hu := hu64 hr
  exact (pss_cons (ps_par (i := 0) (j := 1) (by rfl) sc_l_by_hand.nd rfl rfl (by decide) rfl rfl (pa_cons (pe_cmethK (pe_glob (by rfl) T.C_Code_g rfl) T.C_Code_r T.Code_base64_c (ok_Code_base64 T) (hr.mono (by decide)) T.Code_base64_k0_.choose_spec passLS pk_nil) (pa_cons (pe_cmethK (pe_glob (by rfl) T.C_Code_g rfl) T.C_Code_r T.Code_base32_c (ok_Code_base32 T) (hr.mono (by decide)) T.Code_base32_k0_.choose_spec passLS pk_nil) pa_nil)) (by rfl))
      (pss_cons (ps_set (i := 2) sc_l_by_hand.nd rfl (.inl rfl) (pe_lst (pa_cons (pe_call (ok_text_of T) (hr.mono (by decide)) (by rfl) T.text_of_g T.text_of_f.kp T.text_of_b .nil pass0 (pa_cons (pv 0) (pa_cons (pe_lst (pa_cons pe_int pa_nil)) pa_nil))) (pa_cons (pe_call (ok_text_of T) (hr.mono (by decide)) (by rfl) T.text_of_g T.text_of_f.kp T.text_of_b .nil pass0 (pa_cons (pv 0) (pa_cons (pe_lst (pa_cons pe_int (pa_cons pe_int pa_nil))) pa_nil))) (pa_cons (pe_call (ok_text_of T) (hr.mono (by decide)) (by rfl) T.text_of_g T.text_of_f.kp T.text_of_b .nil pass0 (pa_cons (pv 0) (pa_cons (pe_lst (pa_cons pe_int (pa_cons pe_int (pa_cons pe_int pa_nil)))) pa_nil))) (pa_cons (pe_call (ok_text_of T) (hr.mono (by decide)) (by rfl) T.text_of_g T.text_of_f.kp T.text_of_b .nil pass0 (pa_cons (pv 0) (pa_cons (pe_lst (pa_cons pe_int (pa_cons pe_int (pa_cons pe_int pa_nil)))) pa_nil))) pa_nil))))))
      (pss_cons (ps_set (i := 2) sc_l_by_hand.nd rfl (.inl rfl) (pe_op op_addU (pv 2) (pe_lst (pa_cons (pe_call (ok_text_of T) (hr.mono (by decide)) (by rfl) T.text_of_g T.text_of_f.kp T.text_of_b .nil pass0 (pa_cons (pv 1) (pa_cons (pe_lst (pa_cons pe_int pa_nil)) pa_nil))) (pa_cons (pe_call (ok_text_of T) (hr.mono (by decide)) (by rfl) T.text_of_g T.text_of_f.kp T.text_of_b .nil pass0 (pa_cons (pv 1) (pa_cons (pe_lst (pa_cons pe_int (pa_cons pe_int pa_nil))) pa_nil))) (pa_cons (pe_call (ok_text_of T) (hr.mono (by decide)) (by rfl) T.text_of_g T.text_of_f.kp T.text_of_b .nil pass0 (pa_cons (pv 1) (pa_cons (pe_op op_mulU (pe_lst (pa_cons pe_int pa_nil)) pe_int) pa_nil))) (pa_cons (pe_call (ok_text_of T) (hr.mono (by decide)) (by rfl) T.text_of_g T.text_of_f.kp T.text_of_b .nil pass0 (pa_cons (pv 1) (pa_cons (pe_lst pa_nil) pa_nil))) pa_nil)))))))
      (pss_cons (ps_set (i := 2) sc_l_by_hand.nd rfl (.inl rfl) (pe_op op_addU (pv 2) (pe_lst (pa_cons (pe_call (ok_text_of T) (hr.mono (by decide)) (by rfl) T.text_of_g T.text_of_f.kp T.text_of_b .nil pass0 (pa_cons (pe_cmethK (pe_glob (by rfl) T.C_Code_g rfl) T.C_Code_r T.Code_base16_c (ok_Code_base16 T) (hr.mono (by decide)) T.Code_base16_k0_width.choose_spec passLS (pk_cons pe_int pk_nil)) (pa_cons (pe_lst (pa_cons pe_int (pa_cons pe_int (pa_cons pe_int pa_nil)))) pa_nil))) (pa_cons (pe_call (ok_text_of T) (hr.mono (by decide)) (by rfl) T.text_of_g T.text_of_f.kp T.text_of_b .nil pass0 (pa_cons (pe_makeK T.C_Code_m (ok_Code___init__ T) (hr.mono (by decide)) (by rfl) T.C_Code_g T.Code___init___k1_width.choose_spec passL (pa_cons pe_str pa_nil) (pk_cons pe_int pk_nil)) (pa_cons (pe_lst (pa_cons pe_int (pa_cons pe_int pa_nil))) pa_nil))) pa_nil)))))
      (pss_cons (ps_set (i := 3) sc_l_by_hand.nd rfl (.inl rfl) (pe_lst (pa_cons pe_str (pa_cons pe_str (pa_cons pe_str (pa_cons pe_str (pa_cons pe_str (pa_cons pe_str (pa_cons pe_str (pa_cons pe_str (pa_cons pe_str (pa_cons pe_str pa_nil))))))))))))
      (pss_one (ps_ret (pe_cmpR (op_eqU hu) (pv 2) (pv 3) (nomark _)))))))))


end
section
variable {w : World} {K : PySem.W.Frag} {mg : Str → Option Value} {base : Heap}
local macro_rules | `(tactic| walk_at "hc") => `(tactic| first
  | assumption
  | ((refine CodeAt.same (H := ?xH) ?xb ?xa); (case xa => assumption); (case xb => walk_at "hc")))
local macro_rules | `(tactic| walk_at "rd0") => `(tactic| first
  | ((with_reducible refine r_get (a := ?xa) (c := ?xc) ?x1 ?x2 ?_); (case x1 => rfl); (case x2 => walk_at "hc"))
  | ((with_reducible refine r_methC (a := ?xa) (c := ?xc) ?x1 ?x2 ?x3 ?_); (case x1 => rfl); (case x2 => walk_at "hc"); (case x3 => (intro _ _ _; rfl)))
  | (with_reducible refine r_fmtB ?_)
  | (with_reducible refine r_dget ?_)
  | (with_reducible refine r_m0 ?_)
  | (with_reducible refine r_makeK ?_)
  | (with_reducible refine r_cval ?_)
  | (with_reducible refine r_sfld ?_)
  | (with_reducible refine r_isiI ?_)
  | (with_reducible refine r_isiIB ?_)
  | (with_reducible refine r_isiS ?_)
  | (with_reducible refine r_inID ?_))

def sp_law (T : Txt K mg) : Sp := fun vs H Q _ => ∃ (a : Addr) (ns : List Int), vs = [.ref a] ∧ SqL K H a (ns.map V.int) ∧ ns.length ≤ 63 ∧ ∀ H', Q (.bl true) H'
theorem len_law (T : Txt K mg) (vs : List V) (H : Hp) (Q : VK) (E : XK) (h : sp_law T vs H Q E) : vs.length = 1 := by
  obtain ⟨_, _, rfl, _⟩ := h
  rfl
theorem k16 (w : Nat) : Str.ofString "0123456789" ++ cutS (Str.ofString "ABCDEFGHIJKLMNOPQRSTUVWXYZ") none (some (6 : Int)) = (cOf 16 w).sg ∧ Str.ofString "" = (cOf 16 w).pd := ⟨by show _ = Str.ofString "0123456789ABCDEF"; decide +kernel, rfl⟩
theorem k32 (w : Nat) : Str.ofString "ABCDEFGHIJKLMNOPQRSTUVWXYZ" ++ Str.ofString "234567" = (cOf 32 w).sg ∧ Str.ofString "=" = (cOf 32 w).pd := ⟨by show _ = Str.ofString "ABCDEFGHIJKLMNOPQRSTUVWXYZ234567"; decide +kernel, rfl⟩
theorem k64 (w : Nat) : Str.ofString "ABCDEFGHIJKLMNOPQRSTUVWXYZ" ++ Txt.lower (Str.ofString "ABCDEFGHIJKLMNOPQRSTUVWXYZ") ++ Str.ofString "0123456789" ++ Str.ofString "+/" = (cOf 64 w).sg ∧ Str.ofString "=" = (cOf 64 w).pd :=
  ⟨by show _ = Str.ofString "ABCDEFGHIJKLMNOPQRSTUVWXYZabcdefghijklmnopqrstuvwxyz0123456789+/"; decide +kernel, rfl⟩
def t_law (T : Txt K mg) : TS := (tSeq (tAsg (tTup (tCons (tC (.str (Str.ofString "ABCDEFGHIJKLMNOPQRSTUVWXYZ"))) (tCons (tC (.str (Str.ofString "0123456789"))) tNil))) (gTup K 2 (gCons (gName 1) (gCons (gName 2) gNil))))
    (tSeq (tFor (iRng1 (tCons (tCB rMax2 (tCons (tC (.int 2)) (tCons (tCB rMin2 (tCons (tC (.int 4)) (tCons (tCB (rLenU K) (tCons (tVar 0) tNil)) tNil))) tNil))) tNil)) (gName 3) (tSeq (tAsg (tCall (sp_l_bag T) [] E0 (tCons (tVar 0) (tCons (tVar 3) tNil))) (gName 4))
    (tFor (iRng1 (tCons (tC (.int 6)) tNil)) (gName 5) (tSeq (tIfS (tNot (tB (tCall (sp_l_right T) [] E0 (tCons (tVar 4) (tCons (tC (.int 16)) (tCons (tOp (rAddU K) (tVar 2) (tSl (rSlU K) (tVar 1) tNoPart (tPart (tC (.int 6))))) (tCons (tC (.str (Str.ofString ""))) tNil))))))) (tRet (tC (.bl false))) tNext)
    (tSeq (tIfS (tNot (tB (tCall (sp_l_right T) [] E0 (tCons (tVar 4) (tCons (tC (.int 32)) (tCons (tOp (rAddU K) (tVar 1) (tC (.str (Str.ofString "234567")))) (tCons (tC (.str (Str.ofString "="))) tNil))))))) (tRet (tC (.bl false))) tNext)
    (tIfS (tNot (tB (tCall (sp_l_right T) [] E0 (tCons (tVar 4) (tCons (tC (.int 64)) (tCons (tOp (rAddU K) (tOp (rAddU K) (tOp (rAddU K) (tVar 1) (tM0 rLower (tVar 1))) (tVar 2)) (tC (.str (Str.ofString "+/")))) (tCons (tC (.str (Str.ofString "="))) tNil))))))) (tRet (tC (.bl false))) tNext))))))
    (tSeq (tAsg (tLst (tCons (tCMethK T.C_Code ([] : List Str).length (sp_Code_base16 T) (fun vs zs => vs ++ (zs ++ [.int 0])) (fun _ => E0) (tC (.ref T.C_Code)) tNil) (tCons (tCMethK T.C_Code ([] : List Str).length (sp_Code_base32 T) (fun vs zs => vs ++ (zs ++ [.int 0])) (fun _ => E0) (tC (.ref T.C_Code)) tNil) (tCons (tCMethK T.C_Code ([] : List Str).length (sp_Code_base64 T) (fun vs zs => vs ++ (zs ++ [.int 0])) (fun _ => E0) (tC (.ref T.C_Code)) tNil) tNil)))) (gName 6))
    (tSeq (tIfS (tOr (tTest (tOp (rNeU K) (tLc (iSeqU K (tVar 6)) (gName 7) tYes (tProp T.C_Code (sp_Code_width T) [] E0 (tVar 7)) [7]) (tLst (tCons (tC (.int 0)) (tCons (tC (.int 0)) (tCons (tC (.int 0)) tNil)))))) (tTest (tOp (rNeU K) (ClX.tCVal K (tC (.ref T.C_Code)) "WIDEST") (tC (.int 76))))) (tRet (tC (.bl false))) tNext)
    (tRet (tCall (sp_l_by_hand T) [] E0 tNil))))))

theorem pure_law (T : Txt K mg) (vs : List V) (H : Hp) (Q : VK) (E : XK) (h : sp_law T vs H Q E) : t_law T { nx := fun _ H' => Q .non H', rt := Q } (start ["_law_script", "_law_capitals", "_law_figures", "_law_at", "_law_bag_here", "_law_turn", "_law_known", "_law_code"] vs) H := by
  obtain ⟨a, ns, rfl, hS, hn, q⟩ := h
  unfold t_law
  walk_at "rd"
  refine And.intro (by show 2 ≤ sizeLine; decide) ?_
  intro pt npt
  generalize hg : upd _ pt _ = H1
  have s1 := same_of hg npt
  have v1 := at_of hg
  clear hg
  walk_at "rd"
  generalize hc : (if (if ((List.map V.int ns).length : Int) < 4 then ((List.map V.int ns).length : Int) else 4) > 2 then (if ((List.map V.int ns).length : Int) < 4 then ((List.map V.int ns).length : Int) else 4) else 2) = cnt
  obtain ⟨cn, rfl, hcn⟩ : ∃ m : Nat, cnt = m ∧ m ≤ 4 := by
    refine ⟨cnt.toNat, ?_, ?_⟩
    · rw [← hc]; split <;> split <;> omega
    · rw [← hc]; split <;> split <;> omega
  refine r_one ⟨by omega, by omega⟩ ?_
  refine f_it (walk_range (lo := 0) (n := cn)) (fun i σ G => ∃ v3 v4 v5 v6 v7, σ = [some (.ref a), some (.str (Str.ofString "ABCDEFGHIJKLMNOPQRSTUVWXYZ")), some (.str (Str.ofString "0123456789")), v3, v4, v5, v6, v7] ∧ Same H1 G)
    ⟨_, _, _, _, _, rfl, Same.refl H1⟩ (fun _ _ _ _ _ => trivial) ?_ ?_
  · rintro i x σ G G' hi ⟨v3, v4, v5, v6, v7, rfl, s⟩ ⟨rfl, rfl⟩
    walk_at "rd"
    refine ⟨a, ns, i, by simp, (s1.trans s).seq hS, hn, by omega, fun b H0 s0 nb hb0 => ?_⟩
    walk_at "rd"
    refine r_one ⟨by decide, by decide⟩ ?_
    refine f_it (walk_range (lo := 0) (n := (6 : Int).toNat)) (fun j σ G => ∃ v5 v6 v7, σ = [some (.ref a), some (.str (Str.ofString "ABCDEFGHIJKLMNOPQRSTUVWXYZ")), some (.str (Str.ofString "0123456789")), some (.int (0 + (i : Int))), some (.ref b), v5, v6, v7] ∧ Same G' G ∧ BagAt G b (999990 - 10 * j))
      ⟨_, _, _, rfl, s0, hb0.mono (by omega)⟩ (fun _ _ _ _ _ => trivial) ?_ ?_
    · rintro j x σ G2 G3 hj ⟨w5, w6, w7, rfl, sG, hb⟩ ⟨rfl, rfl⟩
      have hj6 : j < 6 := hj
      walk_at "rd"
      refine r_slUS (smallS (by decide)) ?_
      refine r_addUS (smallS (by decide +kernel)) ?_
      walk_at "rd"
      refine ⟨b, 999986 - 10 * j, 16, _, _, rfl, hb.mono (by omega), k16, fun H2 sb2 hb2 => ?_⟩
      walk_at "rd"
      refine r_addUS (smallS (by decide +kernel)) ?_
      walk_at "rd"
      refine ⟨b, 999984 - 10 * j, 32, _, _, rfl, hb2.mono (by omega), k32, fun H3 sb3 hb3 => ?_⟩
      walk_at "rd"
      refine ⟨⟨_, rfl⟩, _, rfl, rfl, by decide +kernel, ?_⟩
      refine r_addUS (smallS (by decide +kernel)) ?_
      walk_at "rd"
      refine r_addUS (smallS (by decide +kernel)) ?_
      walk_at "rd"
      refine r_addUS (smallS (by decide +kernel)) ?_
      walk_at "rd"
      refine ⟨b, 999982 - 10 * j, 64, _, _, rfl, hb3.mono (by omega), k64, fun H4 sb4 hb4 => ?_⟩
      walk_at "rd"
      exact ⟨_, _, _, rfl, same_mutB nb sG (sb2.trans (sb3.trans sb4)), hb4.mono (by omega)⟩
    · rintro σ G5 ⟨w5, w6, w7, rfl, s5, _⟩
      exact ⟨_, _, _, _, _, rfl, s.trans s5⟩
  · rintro σ G ⟨v3, v4, v5, v6, v7, rfl, s⟩
    walk_at "rd"
    refine r_cmethK ?_
    walk_at "rd"
    refine ⟨rfl, .int 0, "int", rfl, .int _, .inl ⟨0, rfl, by decide, fun c1 H1' t1 n1 a1 => ?_⟩⟩
    walk_at "rd"
    refine r_cmethK ?_
    walk_at "rd"
    refine ⟨rfl, .int 0, "int", rfl, .int _, .inl ⟨0, rfl, by decide, fun c2 H2' t2 n2 a2 => ?_⟩⟩
    walk_at "rd"
    refine r_cmethK ?_
    walk_at "rd"
    refine ⟨rfl, .int 0, "int", rfl, .int _, .inl ⟨0, rfl, by decide, fun c3 H3' t3 n3 a3 => ?_⟩⟩
    walk_at "rd"
    refine And.intro (by show 3 ≤ sizeLine; decide) ?_
    intro l nl
    generalize hg : upd _ l _ = H4
    have s4 := same_of hg nl
    have v4 := at_of hg
    clear hg
    replace a1 := ((a1.same t2).same t3).same s4
    replace a2 := (a2.same t3).same s4
    replace a3 := a3.same s4
    walk_at "rd"
    refine r_iseqL ?_
    walk_at "rd"
    refine ⟨l, rfl, ⟨_, ql v4⟩, fun D nD => ?_⟩
    refine c_it (walk_list (K := K) (a := l) (xs := [V.ref c1, V.ref c2, V.ref c3])) (fun i G => G D = some (.lst ((List.replicate i (0 : Int)).map V.int)) ∧ Same H4 G) ⟨upd_same, same_new nD⟩ (fun i G _ h => ql (h.2 _ _ v4)) ?_ ?_
    · rintro i x G6 G7 hi ⟨hD, sG⟩ ⟨rfl, hx⟩
      obtain ⟨ad, cc, rfl, hcc, hw⟩ : ∃ ad cc, x = V.ref ad ∧ CodeAt T G7 ad cc ∧ cc.wd = 0 := by
        match i, hx with
        | 0, e => exact ⟨c1, _, (Option.some.inj e).symm, a1.same sG, rfl⟩
        | 1, e => exact ⟨c2, _, (Option.some.inj e).symm, a2.same sG, rfl⟩
        | 2, e => exact ⟨c3, _, (Option.some.inj e).symm, a3.same sG, rfl⟩
        | i + 3, e => cases e
      walk_at "rd"
      refine ⟨rfl, ?_⟩
      walk_at "rd"
      rw [hw]
      refine ⟨_, hD, ?_, ?_, same_mut sG nD⟩
      · rw [List.length_map, List.length_replicate]
        exact Nat.lt_of_lt_of_le hi (smallS (by show 3 ≤ 100000; decide))
      · rw [upd_same, List.replicate_succ', List.map_append]
        rfl
    rintro G6 ⟨hD, sG⟩
    have hD3 : G6 D = some (.lst (([0, 0, 0] : List Int).map V.int)) := hD
    walk_at "rd"
    refine And.intro (by show 3 ≤ sizeLine; decide) ?_
    intro z nz
    generalize hg : upd _ z _ = H5
    have s5 := same_of hg nz
    have v5 : H5 z = some (.lst (([0, 0, 0] : List Int).map V.int)) := at_of hg
    clear hg
    refine q_ne (k := false) (xs := [0, 0, 0]) (ys := [0, 0, 0]) ⟨by decide, .inl ⟨rfl, _, rfl, s5 _ _ hD3⟩⟩ ⟨by decide, .inl ⟨rfl, _, rfl, v5⟩⟩ (fun z => nomatch z) (fun z => nomatch z) ?_
    rw [decide_eq_true rfl]
    walk_at "rd"
    refine ⟨_, _, _, _, rfl, T.C_Code_r, T.C_Code_v_WIDEST.choose_spec, ?_⟩
    walk_at "rd"
    refine r_iteND (fun h => absurd rfl h) (fun _ => ?_)
    walk_at "rd"
    refine ⟨rfl, fun H6 s6 => ?_⟩
    exact q H6
theorem ok_law (T : Txt K mg) : FnOk P w K mg base CX0 10 T.law_a T.law_d ["_law_script"] (sp_law T) := by
  refine T.law_f.ok sc_law (fun vs H Q E h => len_law T vs H Q E h) (fun cdv A outer s H vs Q E hr h => ⟨t_law T, PSs.nox ?_, pure_law T vs H Q E h⟩)
  have hu := hu64 hr
  exact (pss_cons (ps_asg (pe_tup (pa_cons pe_str (pa_cons pe_str pa_nil))) (pg_tup (by rfl) (pgs_cons (pg_name (i := 1) sc_law.nd rfl (.inl rfl)) (pgs_cons (pg_name (i := 2) sc_law.nd rfl (.inl rfl)) pgs_nil))))
      (pss_cons (ps_for PassesOwn.never rfl (pi_range1 (by rfl) T.n_range (pa_cons (pe_callB (call_max2 rfl) (by rfl) T.n_max (by decide +kernel) (pa_cons pe_int (pa_cons (pe_callB (call_min2 rfl) (by rfl) T.n_min (by decide +kernel) (pa_cons pe_int (pa_cons (pe_callB c_lenU (by rfl) T.n_len (by decide +kernel) (pa_cons (pv 0) pa_nil)) pa_nil))) pa_nil))) pa_nil)) (pg_name (i := 3) sc_law.nd rfl (.inl rfl)) (pss_cons (ps_set (i := 4) sc_law.nd rfl (.inl rfl) (pe_call (ok_l_bag T) (hr.mono (by decide)) (by rfl) T.l_bag_g T.l_bag_f.kp T.l_bag_b .nil pass0 (pa_cons (pv 0) (pa_cons (pv 3) pa_nil))))
      (pss_one (ps_for PassesOwn.never rfl (pi_range1 (by rfl) T.n_range (pa_cons pe_int pa_nil)) (pg_name (i := 5) sc_law.nd rfl (.inl rfl)) (pss_cons (ps_if (pt_not (pt_val (pe_call (ok_l_right T) (hr.mono (by decide)) (by rfl) T.l_right_g T.l_right_f.kp T.l_right_b .nil pass0 (pa_cons (pv 4) (pa_cons pe_int (pa_cons (pe_op op_addU (pv 2) (pe_slice sl_U (pv 1) po_none (po_some pe_int))) (pa_cons pe_str pa_nil))))))) (pss_one (ps_ret pe_bl)) pss_nil)
      (pss_cons (ps_if (pt_not (pt_val (pe_call (ok_l_right T) (hr.mono (by decide)) (by rfl) T.l_right_g T.l_right_f.kp T.l_right_b .nil pass0 (pa_cons (pv 4) (pa_cons pe_int (pa_cons (pe_op op_addU (pv 1) pe_str) (pa_cons pe_str pa_nil))))))) (pss_one (ps_ret pe_bl)) pss_nil)
      (pss_one (ps_if (pt_not (pt_val (pe_call (ok_l_right T) (hr.mono (by decide)) (by rfl) T.l_right_g T.l_right_f.kp T.l_right_b .nil pass0 (pa_cons (pv 4) (pa_cons pe_int (pa_cons (pe_op op_addU (pe_op op_addU (pe_op op_addU (pv 1) (pe_lower (pv 1))) (pv 2)) pe_str) (pa_cons pe_str pa_nil))))))) (pss_one (ps_ret pe_bl)) pss_nil))))))))
      (pss_cons (ps_set (i := 6) sc_law.nd rfl (.inl rfl) (pe_lst (pa_cons (pe_cmethK (pe_glob (by rfl) T.C_Code_g rfl) T.C_Code_r T.Code_base16_c (ok_Code_base16 T) (hr.mono (by decide)) T.Code_base16_k0_.choose_spec passLS pk_nil) (pa_cons (pe_cmethK (pe_glob (by rfl) T.C_Code_g rfl) T.C_Code_r T.Code_base32_c (ok_Code_base32 T) (hr.mono (by decide)) T.Code_base32_k0_.choose_spec passLS pk_nil) (pa_cons (pe_cmethK (pe_glob (by rfl) T.C_Code_g rfl) T.C_Code_r T.Code_base64_c (ok_Code_base64 T) (hr.mono (by decide)) T.Code_base64_k0_.choose_spec passLS pk_nil) pa_nil)))))
      (pss_cons (ps_if (PW.pt (pw_or (pt_cmpR (op_neU hu) (pe_lc (own := [("_law_code", 7)]) (g := (gName 7)) (tt := tYes) rfl sc_law.nd (pi_seqU (pv 6)) (blkOk_by (own := [("_law_code", 7)]) (N := ["_law_script", "_law_capitals", "_law_figures", "_law_at", "_law_bag_here", "_law_turn", "_law_known", "_law_code"]) (sc := defScope s_law) (by decide +kernel)) (fun _ _ _ _ _ => (pg_name (i := 7) sc_law.nd rfl (.inl rfl))) (fun _ _ _ _ _ => pts_nil) (fun _ _ _ _ _ => (pe_prop (pv 7) T.C_Code_c T.Code_width_p (ok_Code_width T) (hr.mono (by decide)) T.Code_width_b .nil pass0 rfl))) (pe_lst (pa_cons pe_int (pa_cons pe_int (pa_cons pe_int pa_nil)))) (nomark _)) (pw_or1 (pt_cmpR (op_neU hu) (ClX.pe_cval (pe_glob (by rfl) T.C_Code_g rfl)) pe_int (nomark _))))) (pss_one (ps_ret pe_bl)) pss_nil)
      (pss_one (ps_ret (pe_call0 (ok_l_by_hand T) (hr.mono (by decide)) (by rfl) T.l_by_hand_g T.l_by_hand_f.kp T.l_by_hand_b .nil pass0)))))))


end
section
variable {w : World} {K : PySem.W.Frag} {mg : Str → Option Value} {base : Heap}
theorem kb_pad_width {fd : FuncData} {a : Addr} (F : FunD K "__init__" "Code.__init__" (defArgs s_Code___init__) (defBody s_Code___init__) (defScope s_Code___init__) [] [("pad", .str (Str.ofString "")), ("width", .int 0)] a fd) :
    ∃ g, KBn K fd ["self", "signs", "pad", "width"] 2 ["pad", "width"] g (fun vs zs => vs ++ zs) := by
  obtain ⟨mv, h⟩ := FunD.kbinds0 (ps := ["self", "signs", "pad", "width"]) F 2 ["pad", "width"] [] (fun a m z => a ++ z) (by simp) (by simp) (fun r1 r2 r3 => r1.append r3)
    (fun D doc pm an cdv ct us mv ws l1 l2 l3 => match us, mv, ws, l1, l2, l3 with | [_, _], [], [_, _], _, _, _ => rfl)
  exact ⟨_, h⟩
theorem kb_width {fd : FuncData} {a : Addr} (F : FunD K "__init__" "Code.__init__" (defArgs s_Code___init__) (defBody s_Code___init__) (defScope s_Code___init__) [] [("pad", .str (Str.ofString "")), ("width", .int 0)] a fd) :
    ∃ g, KBn K fd ["self", "signs", "pad", "width"] 2 ["width"] g (fun vs zs => vs ++ ([.str (Str.ofString "")] ++ zs)) := by
  obtain ⟨mv, h⟩ := FunD.kbinds0 (ps := ["self", "signs", "pad", "width"]) F 2 ["width"] [("pad", .str (Str.ofString ""))] (fun a m z => a ++ (m ++ z)) (by simp) (by simp) (fun r1 r2 r3 => r1.append (r2.append r3))
    (fun D doc pm an cdv ct us mv ws l1 l2 l3 => match us, mv, ws, l1, l2, l3 with | [_, _], [_], [_], _, _, _ => ⟨_, _, _, _, _, _, rfl, rfl, rfl⟩)
  exact ⟨_, h⟩
theorem kb_Code_base16_width {fd : FuncData} {a : Addr} (F : FunD K "base16" "Code.base16" (defArgs s_Code_base16) (defBody s_Code_base16) (defScope s_Code_base16) [] [("width", .int 0)] a fd) :
    ∃ g, KBn K fd ["cls", "width"] 1 ["width"] g (fun vs zs => vs ++ zs) := by
  obtain ⟨mv, h⟩ := FunD.kbinds0 (ps := ["cls", "width"]) F 1 ["width"] [] (fun a m z => a ++ z) (by simp) (by simp) (fun r1 r2 r3 => r1.append r3)
    (fun D doc pm an cdv ct us mv ws l1 l2 l3 => match us, mv, ws, l1, l2, l3 with | [_], [], [_], _, _, _ => rfl)
  exact ⟨_, h⟩
theorem kb_Code_base16_ {fd : FuncData} {a : Addr} (F : FunD K "base16" "Code.base16" (defArgs s_Code_base16) (defBody s_Code_base16) (defScope s_Code_base16) [] [("width", .int 0)] a fd) :
    ∃ g, KBn K fd ["cls", "width"] 1 [] g (fun vs zs => vs ++ (zs ++ [.int 0])) := by
  obtain ⟨mv, h⟩ := FunD.kbinds0 (ps := ["cls", "width"]) F 1 [] [("width", .int 0)] (fun a m z => a ++ (z ++ m)) (by simp) (by simp) (fun r1 r2 r3 => r1.append (r3.append r2))
    (fun D doc pm an cdv ct us mv ws l1 l2 l3 => match us, mv, ws, l1, l2, l3 with | [_], [_], [], _, _, _ => ⟨_, _, _, _, _, _, rfl, rfl, rfl⟩)
  exact ⟨_, h⟩
theorem kb_Code_base32_width {fd : FuncData} {a : Addr} (F : FunD K "base32" "Code.base32" (defArgs s_Code_base32) (defBody s_Code_base32) (defScope s_Code_base32) [] [("width", .int 0)] a fd) :
    ∃ g, KBn K fd ["cls", "width"] 1 ["width"] g (fun vs zs => vs ++ zs) := by
  obtain ⟨mv, h⟩ := FunD.kbinds0 (ps := ["cls", "width"]) F 1 ["width"] [] (fun a m z => a ++ z) (by simp) (by simp) (fun r1 r2 r3 => r1.append r3)
    (fun D doc pm an cdv ct us mv ws l1 l2 l3 => match us, mv, ws, l1, l2, l3 with | [_], [], [_], _, _, _ => rfl)
  exact ⟨_, h⟩
theorem kb_Code_base32_ {fd : FuncData} {a : Addr} (F : FunD K "base32" "Code.base32" (defArgs s_Code_base32) (defBody s_Code_base32) (defScope s_Code_base32) [] [("width", .int 0)] a fd) :
    ∃ g, KBn K fd ["cls", "width"] 1 [] g (fun vs zs => vs ++ (zs ++ [.int 0])) := by
  obtain ⟨mv, h⟩ := FunD.kbinds0 (ps := ["cls", "width"]) F 1 [] [("width", .int 0)] (fun a m z => a ++ (z ++ m)) (by simp) (by simp) (fun r1 r2 r3 => r1.append (r3.append r2))
    (fun D doc pm an cdv ct us mv ws l1 l2 l3 => match us, mv, ws, l1, l2, l3 with | [_], [_], [], _, _, _ => ⟨_, _, _, _, _, _, rfl, rfl, rfl⟩)
  exact ⟨_, h⟩
theorem kb_Code_base64_width {fd : FuncData} {a : Addr} (F : FunD K "base64" "Code.base64" (defArgs s_Code_base64) (defBody s_Code_base64) (defScope s_Code_base64) [] [("width", .int 0)] a fd) :
    ∃ g, KBn K fd ["cls", "width"] 1 ["width"] g (fun vs zs => vs ++ zs) := by
  obtain ⟨mv, h⟩ := FunD.kbinds0 (ps := ["cls", "width"]) F 1 ["width"] [] (fun a m z => a ++ z) (by simp) (by simp) (fun r1 r2 r3 => r1.append r3)
    (fun D doc pm an cdv ct us mv ws l1 l2 l3 => match us, mv, ws, l1, l2, l3 with | [_], [], [_], _, _, _ => rfl)
  exact ⟨_, h⟩
theorem kb_Code_base64_ {fd : FuncData} {a : Addr} (F : FunD K "base64" "Code.base64" (defArgs s_Code_base64) (defBody s_Code_base64) (defScope s_Code_base64) [] [("width", .int 0)] a fd) :
    ∃ g, KBn K fd ["cls", "width"] 1 [] g (fun vs zs => vs ++ (zs ++ [.int 0])) := by
  obtain ⟨mv, h⟩ := FunD.kbinds0 (ps := ["cls", "width"]) F 1 [] [("width", .int 0)] (fun a m z => a ++ (z ++ m)) (by simp) (by simp) (fun r1 r2 r3 => r1.append (r3.append r2))
    (fun D doc pm an cdv ct us mv ws l1 l2 l3 => match us, mv, ws, l1, l2, l3 with | [_], [_], [], _, _, _ => ⟨_, _, _, _, _, _, rfl, rfl, rfl⟩)
  exact ⟨_, h⟩
def d_is_integer : DefA := ⟨wGlo "is_integer", "is_integer", "is_integer", defArgs s_is_integer, defBody s_is_integer, defScope s_is_integer, [], []⟩
def d_is_within : DefA := ⟨wGlo "is_within", "is_within", "is_within", defArgs s_is_within, defBody s_is_within, defScope s_is_within, [], []⟩
def d_is_byte : DefA := ⟨wGlo "is_byte", "is_byte", "is_byte", defArgs s_is_byte, defBody s_is_byte, defScope s_is_byte, [], []⟩
def d_is_sign : DefA := ⟨wGlo "is_sign", "is_sign", "is_sign", defArgs s_is_sign, defBody s_is_sign, defScope s_is_sign, [], []⟩
def d_are_signs : DefA := ⟨wGlo "are_signs", "are_signs", "are_signs", defArgs s_are_signs, defBody s_are_signs, defScope s_are_signs, [], []⟩
def d_data_of : DefA := ⟨wGlo "data_of", "data_of", "data_of", defArgs s_data_of, defBody s_data_of, defScope s_data_of, [], []⟩
def d_Code_signs : DefA := ⟨wGet "Code" "signs", "signs", "Code.signs", defArgs s_Code_signs, defBody s_Code_signs, defScope s_Code_signs, [], []⟩
def d_Code_pad : DefA := ⟨wGet "Code" "pad", "pad", "Code.pad", defArgs s_Code_pad, defBody s_Code_pad, defScope s_Code_pad, [], []⟩
def d_Code_width : DefA := ⟨wGet "Code" "width", "width", "Code.width", defArgs s_Code_width, defBody s_Code_width, defScope s_Code_width, [], []⟩
def d_Code_bits : DefA := ⟨wGet "Code" "bits", "bits", "Code.bits", defArgs s_Code_bits, defBody s_Code_bits, defScope s_Code_bits, [], []⟩
def d_Code_group : DefA := ⟨wGet "Code" "group", "group", "Code.group", defArgs s_Code_group, defBody s_Code_group, defScope s_Code_group, [], []⟩
def d_Code_begin : DefA := ⟨wMeth "Code" "begin", "begin", "Code.begin", defArgs s_Code_begin, defBody s_Code_begin, defScope s_Code_begin, [], []⟩
def d_Code_is_full : DefA := ⟨wMeth "Code" "is_full", "is_full", "Code.is_full", defArgs s_Code_is_full, defBody s_Code_is_full, defScope s_Code_is_full, [], []⟩
def d_Code_next_column : DefA := ⟨wMeth "Code" "next_column", "next_column", "Code.next_column", defArgs s_Code_next_column, defBody s_Code_next_column, defScope s_Code_next_column, [], []⟩
def d_Code_placed : DefA := ⟨wMeth "Code" "placed", "placed", "Code.placed", defArgs s_Code_placed, defBody s_Code_placed, defScope s_Code_placed, [], []⟩
def d_Code_write : DefA := ⟨wMeth "Code" "write", "write", "Code.write", defArgs s_Code_write, defBody s_Code_write, defScope s_Code_write, [], []⟩
def d_Code_close : DefA := ⟨wMeth "Code" "close", "close", "Code.close", defArgs s_Code_close, defBody s_Code_close, defScope s_Code_close, [], []⟩
def d_Machine_whole : DefA := ⟨wMeth "Code" "whole", "whole", "Machine.whole", defArgs s_Machine_whole, defBody s_Machine_whole, defScope s_Machine_whole, [], []⟩
def d_plain_text : DefA := ⟨wGlo "plain_text", "plain_text", "plain_text", defArgs s_plain_text, defBody s_plain_text, defScope s_plain_text, [], []⟩
def d_text_of : DefA := ⟨wGlo "text_of", "text_of", "text_of", defArgs s_text_of, defBody s_text_of, defScope s_text_of, [], []⟩
def d_Code___init__ : DefA := ⟨wMeth "Code" "__init__", "__init__", "Code.__init__", defArgs s_Code___init__, defBody s_Code___init__, defScope s_Code___init__, [], [("pad", .str ""), ("width", .int 0)]⟩
def d_Code___eq__ : DefA := ⟨wMeth "Code" "__eq__", "__eq__", "Code.__eq__", defArgs s_Code___eq__, defBody s_Code___eq__, defScope s_Code___eq__, [], []⟩
def d_Code_base16 : DefA := ⟨wCls "Code" "base16", "base16", "Code.base16", defArgs s_Code_base16, defBody s_Code_base16, defScope s_Code_base16, [], [("width", .int 0)]⟩
def d_Code_base32 : DefA := ⟨wCls "Code" "base32", "base32", "Code.base32", defArgs s_Code_base32, defBody s_Code_base32, defScope s_Code_base32, [], [("width", .int 0)]⟩
def d_Code_base64 : DefA := ⟨wCls "Code" "base64", "base64", "Code.base64", defArgs s_Code_base64, defBody s_Code_base64, defScope s_Code_base64, [], [("width", .int 0)]⟩
def d_l_bag : DefA := ⟨wGlo "_law_bag", "_law_bag", "_law_bag", defArgs s_l_bag, defBody s_l_bag, defScope s_l_bag, [], []⟩
def d_l_take : DefA := ⟨wGlo "_law_take", "_law_take", "_law_take", defArgs s_l_take, defBody s_l_take, defScope s_l_take, [], []⟩
def d_l_of : DefA := ⟨wGlo "_law_of", "_law_of", "_law_of", defArgs s_l_of, defBody s_l_of, defScope s_l_of, [], []⟩
def d_l_named : DefA := ⟨wGlo "_law_named", "_law_named", "_law_named", defArgs s_l_named, defBody s_l_named, defScope s_l_named, [], []⟩
def d_l_right : DefA := ⟨wGlo "_law_right", "_law_right", "_law_right", defArgs s_l_right, defBody s_l_right, defScope s_l_right, [], []⟩
def d_l_by_hand : DefA := ⟨wGlo "_law_by_hand", "_law_by_hand", "_law_by_hand", defArgs s_l_by_hand, defBody s_l_by_hand, defScope s_l_by_hand, [], []⟩
def d_law : DefA := ⟨wGlo "law", "law", "law", defArgs s_law, defBody s_law, defScope s_law, [], []⟩
def hdefs : List DefA := [d_is_integer, d_is_within, d_is_byte, d_is_sign, d_are_signs, d_data_of, d_Code_signs, d_Code_pad, d_Code_width, d_Code_bits, d_Code_group, d_Code_begin, d_Code_is_full, d_Code_next_column, d_Code_placed, d_Code_write, d_Code_close, d_Machine_whole, d_plain_text, d_text_of, d_Code___init__, d_Code___eq__, d_Code_base16, d_Code_base32, d_Code_base64, d_l_bag, d_l_take, d_l_of, d_l_named, d_l_right, d_l_by_hand, d_law]
def hfacts : List Fact := [fFa (.glo "Code"), fFa (.cls "Code"), fFa (.glo "is_integer"), fFa (.glo "is_within"), fFa (.glo "is_byte"), fFa (.glo "is_sign"), fFa (.glo "are_signs"), fFa (.glo "data_of"), fProp "Code" "signs", fProp "Code" "pad", fProp "Code" "width", fProp "Code" "bits", fProp "Code" "group", fFa (.meth "Code" "begin"), fFa (.meth "Code" "is_full"), fFa (.meth "Code" "next_column"), fFa (.meth "Code" "placed"), fFa (.meth "Code" "write"), fFa (.meth "Code" "close"), fFa (.meth "Code" "whole"), fFa (.glo "plain_text"), fFa (.glo "text_of"), fFa (.mkr "Code"), fFa (.meth "Code" "__eq__"), fCMet "Code" "base16", fCMet "Code" "base32", fCMet "Code" "base64", fFa (.glo "_law_bag"), fFa (.glo "_law_take"), fFa (.glo "_law_of"), fFa (.glo "_law_named"), fFa (.glo "_law_right"), fFa (.glo "_law_by_hand"), fFa (.glo "law"), fFa (.noat "Code" "parts"), fFa (.noat "Code" "sign_bits"), fFa (.noat "Code" "digits"), fCRead "Code", fCVal "Code" "WIDEST" (.int 76), fFa (.str "PRINTED" " !\"#$&'()*+,-./0123456789:;<=>?@ABCDEFGHIJKLMNOPQRSTUVWXYZ[\\]^_`abcdefghijklmnopqrstuvwxyz{|}~"), fFa (.int "MOST_BYTES" 600), fFa (.glo "GROUPS"), fTup "GROUPS" [.int 0, .int 8, .int 4, .int 8, .int 2, .int 8, .int 4], fFa (.str "NEWLINE" "\n"), fFa (.glo "BITS"), (fun K => idB K (He.ga K "BITS") [(2, 1), (4, 2), (8, 3), (16, 4), (32, 5), (64, 6)]), fFa (.free "abs"), fFa (.free "all"), fFa (.free "bool"), fFa (.free "enumerate"), fFa (.free "int"), fFa (.free "isinstance"), fFa (.free "len"), fFa (.free "list"), fFa (.free "max"), fFa (.free "min"), fFa (.free "range"), fFa (.free "str"), fFa (.free "super"), fFa (.free "tuple"), fNe "Code", fIns "Code"]
abbrev hrow : PySem.W.OpenRow := PySem.W.OpenLaw.row PySem.Challenge.rw_piecetexts_k02_known_codes
def herrs : List ErrD := [eD_BadOption]
abbrev hhook : PySem.W.Hook := hookX 6 hfacts hdefs herrs
def hob (s : PySem.W.SharedT) : AlA := obsXG 6 hfacts hdefs herrs (HandSHeadRun.getT s)
theorem hob_eq (s : PySem.W.SharedT) : hob s = hhook.obs s.abs := obsXG_eq (HandSHeadRun.getT_eq s)
abbrev hloose0 : List Str := ["_wall", "BadSigns", "BadOption", "NoByte", "PRINTED", "CAPITALS", "SMALLS", "MOST_BYTES", "is_integer", "is_within", "is_byte", "is_sign", "are_signs", "data_of", "other_case", "Machine", "BYTE_BITS", "BITS", "GROUPS", "NEWLINE", "Code", "plain_text", "text_of", "_law_bag", "_law_take", "_law_of", "_law_named", "_law_right", "_law_by_hand"]
abbrev hloose : List Str := hloose0
theorem hrun_true (w : World) : HandSHeadRun.RunEq hrow (PySem.W.view hrow.prog [35]) hhook hob 6000 hloose (w.withFollow "special-get-raises" true) := by
  intro os
  kernel_rfl
theorem hrun_false (w : World) : HandSHeadRun.RunEq hrow (PySem.W.view hrow.prog [35]) hhook hob 6000 hloose (w.withFollow "special-get-raises" false) := by
  intro os
  kernel_rfl
theorem hrun (w : World) : HandSHeadRun.RunEq hrow (PySem.W.view hrow.prog [35]) hhook hob 6000 hloose w := PySem.W.byRow2 "special-get-raises" (P := fun w => HandSHeadRun.RunEq hrow (PySem.W.view hrow.prog [35]) hhook hob 6000 hloose w) hrun_false hrun_true w
theorem htxt {K : PySem.W.Frag} {h : Heap} {mg : Str → Option Value} {f : Addr} (X : K.In h) (G : h.Ns mainGlobals mg) (hfa : mg ("law" : Str) = some (.ref f)) (c : SaysX hfacts hdefs herrs K) :
    ∃ T : Txt K mg, T.law_a = f ∧ ∀ (s : Shared) (v : Value), BindsTo s T.law_d ⟨[v], []⟩ [("_law_script", v)] := by
  obtain ⟨fd_is_integer, F_is_integer⟩ := c.def_ 0 (d := d_is_integer) rfl
  obtain ⟨fd_is_within, F_is_within⟩ := c.def_ 1 (d := d_is_within) rfl
  obtain ⟨fd_is_byte, F_is_byte⟩ := c.def_ 2 (d := d_is_byte) rfl
  obtain ⟨fd_is_sign, F_is_sign⟩ := c.def_ 3 (d := d_is_sign) rfl
  obtain ⟨fd_are_signs, F_are_signs⟩ := c.def_ 4 (d := d_are_signs) rfl
  obtain ⟨fd_data_of, F_data_of⟩ := c.def_ 5 (d := d_data_of) rfl
  obtain ⟨fd_Code_signs, F_Code_signs⟩ := c.def_ 6 (d := d_Code_signs) rfl
  obtain ⟨fd_Code_pad, F_Code_pad⟩ := c.def_ 7 (d := d_Code_pad) rfl
  obtain ⟨fd_Code_width, F_Code_width⟩ := c.def_ 8 (d := d_Code_width) rfl
  obtain ⟨fd_Code_bits, F_Code_bits⟩ := c.def_ 9 (d := d_Code_bits) rfl
  obtain ⟨fd_Code_group, F_Code_group⟩ := c.def_ 10 (d := d_Code_group) rfl
  obtain ⟨fd_Code_begin, F_Code_begin⟩ := c.def_ 11 (d := d_Code_begin) rfl
  obtain ⟨fd_Code_is_full, F_Code_is_full⟩ := c.def_ 12 (d := d_Code_is_full) rfl
  obtain ⟨fd_Code_next_column, F_Code_next_column⟩ := c.def_ 13 (d := d_Code_next_column) rfl
  obtain ⟨fd_Code_placed, F_Code_placed⟩ := c.def_ 14 (d := d_Code_placed) rfl
  obtain ⟨fd_Code_write, F_Code_write⟩ := c.def_ 15 (d := d_Code_write) rfl
  obtain ⟨fd_Code_close, F_Code_close⟩ := c.def_ 16 (d := d_Code_close) rfl
  obtain ⟨fd_Machine_whole, F_Machine_whole⟩ := c.def_ 17 (d := d_Machine_whole) rfl
  obtain ⟨fd_plain_text, F_plain_text⟩ := c.def_ 18 (d := d_plain_text) rfl
  obtain ⟨fd_text_of, F_text_of⟩ := c.def_ 19 (d := d_text_of) rfl
  obtain ⟨fd_Code___init__, F_Code___init__⟩ := c.def_ 20 (d := d_Code___init__) rfl
  obtain ⟨fd_Code___eq__, F_Code___eq__⟩ := c.def_ 21 (d := d_Code___eq__) rfl
  obtain ⟨fd_Code_base16, F_Code_base16⟩ := c.def_ 22 (d := d_Code_base16) rfl
  obtain ⟨fd_Code_base32, F_Code_base32⟩ := c.def_ 23 (d := d_Code_base32) rfl
  obtain ⟨fd_Code_base64, F_Code_base64⟩ := c.def_ 24 (d := d_Code_base64) rfl
  obtain ⟨fd_l_bag, F_l_bag⟩ := c.def_ 25 (d := d_l_bag) rfl
  obtain ⟨fd_l_take, F_l_take⟩ := c.def_ 26 (d := d_l_take) rfl
  obtain ⟨fd_l_of, F_l_of⟩ := c.def_ 27 (d := d_l_of) rfl
  obtain ⟨fd_l_named, F_l_named⟩ := c.def_ 28 (d := d_l_named) rfl
  obtain ⟨fd_l_right, F_l_right⟩ := c.def_ 29 (d := d_l_right) rfl
  obtain ⟨fd_l_by_hand, F_l_by_hand⟩ := c.def_ 30 (d := d_l_by_hand) rfl
  obtain ⟨fd_law, F_law⟩ := c.def_ 31 (d := d_law) rfl
  have XF_BadOption := c.err 0 (d := eD_BadOption) rfl
  have g_law := He.glo_ok X G (c.fact 33 (f := fFa (.glo "law")) rfl)
  have e := hfa.symm.trans g_law
  cases e
  obtain ⟨t_PRINTED, h_PRINTED⟩ := He.str_ok X G (c.fact 39 (f := fFa (.str "PRINTED" " !\"#$&'()*+,-./0123456789:;<=>?@ABCDEFGHIJKLMNOPQRSTUVWXYZ[\\]^_`abcdefghijklmnopqrstuvwxyz{|}~")) rfl)
  obtain ⟨t_MOST_BYTES, h_MOST_BYTES⟩ := He.int_ok X G (c.fact 40 (f := fFa (.int "MOST_BYTES" 600)) rfl)
  obtain ⟨t_NEWLINE, h_NEWLINE⟩ := He.str_ok X G (c.fact 43 (f := fFa (.str "NEWLINE" "\n")) rfl)
  refine ⟨{
    C_Code := He.ga K "Code"
    C_Code_g := He.glo_ok X G (c.fact 0 (f := fFa (.glo "Code")) rfl)
    C_Code_c := He.cls_ok (c.fact 1 (f := fFa (.cls "Code")) rfl)
    is_integer_a := _
    is_integer_d := fd_is_integer
    is_integer_f := F_is_integer
    is_integer_g := He.glo_ok X G (c.fact 2 (f := fFa (.glo "is_integer")) rfl)
    is_integer_b := FunD.bindsN (ps := ["value"]) F_is_integer fun _ _ _ _ _ _ us hl => match us, hl with | [_], _ => rfl
    is_within_a := _
    is_within_d := fd_is_within
    is_within_f := F_is_within
    is_within_g := He.glo_ok X G (c.fact 3 (f := fFa (.glo "is_within")) rfl)
    is_within_b := FunD.bindsN (ps := ["value", "low", "high"]) F_is_within fun _ _ _ _ _ _ us hl => match us, hl with | [_, _, _], _ => rfl
    is_byte_a := _
    is_byte_d := fd_is_byte
    is_byte_f := F_is_byte
    is_byte_g := He.glo_ok X G (c.fact 4 (f := fFa (.glo "is_byte")) rfl)
    is_byte_b := FunD.bindsN (ps := ["value"]) F_is_byte fun _ _ _ _ _ _ us hl => match us, hl with | [_], _ => rfl
    is_sign_a := _
    is_sign_d := fd_is_sign
    is_sign_f := F_is_sign
    is_sign_g := He.glo_ok X G (c.fact 5 (f := fFa (.glo "is_sign")) rfl)
    is_sign_b := FunD.bindsN (ps := ["value"]) F_is_sign fun _ _ _ _ _ _ us hl => match us, hl with | [_], _ => rfl
    are_signs_a := _
    are_signs_d := fd_are_signs
    are_signs_f := F_are_signs
    are_signs_g := He.glo_ok X G (c.fact 6 (f := fFa (.glo "are_signs")) rfl)
    are_signs_b := FunD.bindsN (ps := ["value"]) F_are_signs fun _ _ _ _ _ _ us hl => match us, hl with | [_], _ => rfl
    data_of_a := _
    data_of_d := fd_data_of
    data_of_f := F_data_of
    data_of_g := He.glo_ok X G (c.fact 7 (f := fFa (.glo "data_of")) rfl)
    data_of_b := FunD.bindsN (ps := ["value"]) F_data_of fun _ _ _ _ _ _ us hl => match us, hl with | [_], _ => rfl
    Code_signs_a := _
    Code_signs_d := fd_Code_signs
    Code_signs_f := F_Code_signs
    Code_signs_q := _
    Code_signs_p := fProp_ok (c.fact 8 (f := fProp "Code" "signs") rfl)
    Code_signs_b := FunD.bindsN (ps := ["self"]) F_Code_signs fun _ _ _ _ _ _ us hl => match us, hl with | [_], _ => rfl
    Code_pad_a := _
    Code_pad_d := fd_Code_pad
    Code_pad_f := F_Code_pad
    Code_pad_q := _
    Code_pad_p := fProp_ok (c.fact 9 (f := fProp "Code" "pad") rfl)
    Code_pad_b := FunD.bindsN (ps := ["self"]) F_Code_pad fun _ _ _ _ _ _ us hl => match us, hl with | [_], _ => rfl
    Code_width_a := _
    Code_width_d := fd_Code_width
    Code_width_f := F_Code_width
    Code_width_q := _
    Code_width_p := fProp_ok (c.fact 10 (f := fProp "Code" "width") rfl)
    Code_width_b := FunD.bindsN (ps := ["self"]) F_Code_width fun _ _ _ _ _ _ us hl => match us, hl with | [_], _ => rfl
    Code_bits_a := _
    Code_bits_d := fd_Code_bits
    Code_bits_f := F_Code_bits
    Code_bits_q := _
    Code_bits_p := fProp_ok (c.fact 11 (f := fProp "Code" "bits") rfl)
    Code_bits_b := FunD.bindsN (ps := ["self"]) F_Code_bits fun _ _ _ _ _ _ us hl => match us, hl with | [_], _ => rfl
    Code_group_a := _
    Code_group_d := fd_Code_group
    Code_group_f := F_Code_group
    Code_group_q := _
    Code_group_p := fProp_ok (c.fact 12 (f := fProp "Code" "group") rfl)
    Code_group_b := FunD.bindsN (ps := ["self"]) F_Code_group fun _ _ _ _ _ _ us hl => match us, hl with | [_], _ => rfl
    Code_begin_a := _
    Code_begin_d := fd_Code_begin
    Code_begin_f := F_Code_begin
    Code_begin_m := He.meth_ok (c.fact 13 (f := fFa (.meth "Code" "begin")) rfl)
    Code_begin_b := FunD.bindsN (ps := ["self"]) F_Code_begin fun _ _ _ _ _ _ us hl => match us, hl with | [_], _ => rfl
    Code_is_full_a := _
    Code_is_full_d := fd_Code_is_full
    Code_is_full_f := F_Code_is_full
    Code_is_full_m := He.meth_ok (c.fact 14 (f := fFa (.meth "Code" "is_full")) rfl)
    Code_is_full_b := FunD.bindsN (ps := ["self", "column"]) F_Code_is_full fun _ _ _ _ _ _ us hl => match us, hl with | [_, _], _ => rfl
    Code_next_column_a := _
    Code_next_column_d := fd_Code_next_column
    Code_next_column_f := F_Code_next_column
    Code_next_column_m := He.meth_ok (c.fact 15 (f := fFa (.meth "Code" "next_column")) rfl)
    Code_next_column_b := FunD.bindsN (ps := ["self", "column"]) F_Code_next_column fun _ _ _ _ _ _ us hl => match us, hl with | [_, _], _ => rfl
    Code_placed_a := _
    Code_placed_d := fd_Code_placed
    Code_placed_f := F_Code_placed
    Code_placed_m := He.meth_ok (c.fact 16 (f := fFa (.meth "Code" "placed")) rfl)
    Code_placed_b := FunD.bindsN (ps := ["self", "column", "sign"]) F_Code_placed fun _ _ _ _ _ _ us hl => match us, hl with | [_, _, _], _ => rfl
    Code_write_a := _
    Code_write_d := fd_Code_write
    Code_write_f := F_Code_write
    Code_write_m := He.meth_ok (c.fact 17 (f := fFa (.meth "Code" "write")) rfl)
    Code_write_b := FunD.bindsN (ps := ["self", "state", "byte"]) F_Code_write fun _ _ _ _ _ _ us hl => match us, hl with | [_, _, _], _ => rfl
    Code_close_a := _
    Code_close_d := fd_Code_close
    Code_close_f := F_Code_close
    Code_close_m := He.meth_ok (c.fact 18 (f := fFa (.meth "Code" "close")) rfl)
    Code_close_b := FunD.bindsN (ps := ["self", "state"]) F_Code_close fun _ _ _ _ _ _ us hl => match us, hl with | [_, _], _ => rfl
    Machine_whole_a := _
    Machine_whole_d := fd_Machine_whole
    Machine_whole_f := F_Machine_whole
    Machine_whole_m := He.meth_ok (c.fact 19 (f := fFa (.meth "Code" "whole")) rfl)
    Machine_whole_b := FunD.bindsN (ps := ["self", "data"]) F_Machine_whole fun _ _ _ _ _ _ us hl => match us, hl with | [_, _], _ => rfl
    plain_text_a := _
    plain_text_d := fd_plain_text
    plain_text_f := F_plain_text
    plain_text_g := He.glo_ok X G (c.fact 20 (f := fFa (.glo "plain_text")) rfl)
    plain_text_b := FunD.bindsN (ps := ["code", "data"]) F_plain_text fun _ _ _ _ _ _ us hl => match us, hl with | [_, _], _ => rfl
    text_of_a := _
    text_of_d := fd_text_of
    text_of_f := F_text_of
    text_of_g := He.glo_ok X G (c.fact 21 (f := fFa (.glo "text_of")) rfl)
    text_of_b := FunD.bindsN (ps := ["code", "data"]) F_text_of fun _ _ _ _ _ _ us hl => match us, hl with | [_, _], _ => rfl
    Code___init___a := _
    Code___init___d := fd_Code___init__
    Code___init___f := F_Code___init__
    C_Code_m := He.mkr_ok (c.fact 22 (f := fFa (.mkr "Code")) rfl)
    Code___eq___a := _
    Code___eq___d := fd_Code___eq__
    Code___eq___f := F_Code___eq__
    Code___eq___m := He.meth_ok (c.fact 23 (f := fFa (.meth "Code" "__eq__")) rfl)
    Code___eq___b := FunD.bindsN (ps := ["self", "other"]) F_Code___eq__ fun _ _ _ _ _ _ us hl => match us, hl with | [_, _], _ => rfl
    Code_base16_a := _
    Code_base16_d := fd_Code_base16
    Code_base16_f := F_Code_base16
    Code_base16_p := _
    Code_base16_c := fCMet_ok (c.fact 24 (f := fCMet "Code" "base16") rfl)
    Code_base32_a := _
    Code_base32_d := fd_Code_base32
    Code_base32_f := F_Code_base32
    Code_base32_p := _
    Code_base32_c := fCMet_ok (c.fact 25 (f := fCMet "Code" "base32") rfl)
    Code_base64_a := _
    Code_base64_d := fd_Code_base64
    Code_base64_f := F_Code_base64
    Code_base64_p := _
    Code_base64_c := fCMet_ok (c.fact 26 (f := fCMet "Code" "base64") rfl)
    l_bag_a := _
    l_bag_d := fd_l_bag
    l_bag_f := F_l_bag
    l_bag_g := He.glo_ok X G (c.fact 27 (f := fFa (.glo "_law_bag")) rfl)
    l_bag_b := FunD.bindsN (ps := ["_law_script", "_law_at"]) F_l_bag fun _ _ _ _ _ _ us hl => match us, hl with | [_, _], _ => rfl
    l_take_a := _
    l_take_d := fd_l_take
    l_take_f := F_l_take
    l_take_g := He.glo_ok X G (c.fact 28 (f := fFa (.glo "_law_take")) rfl)
    l_take_b := FunD.bindsN (ps := ["_law_bag_here", "_law_many"]) F_l_take fun _ _ _ _ _ _ us hl => match us, hl with | [_, _], _ => rfl
    l_of_a := _
    l_of_d := fd_l_of
    l_of_f := F_l_of
    l_of_g := He.glo_ok X G (c.fact 29 (f := fFa (.glo "_law_of")) rfl)
    l_of_b := FunD.bindsN (ps := ["_law_bag_here", "_law_some"]) F_l_of fun _ _ _ _ _ _ us hl => match us, hl with | [_, _], _ => rfl
    l_named_a := _
    l_named_d := fd_l_named
    l_named_f := F_l_named
    l_named_g := He.glo_ok X G (c.fact 30 (f := fFa (.glo "_law_named")) rfl)
    l_named_b := FunD.bindsN (ps := ["_law_name", "_law_room"]) F_l_named fun _ _ _ _ _ _ us hl => match us, hl with | [_, _], _ => rfl
    l_right_a := _
    l_right_d := fd_l_right
    l_right_f := F_l_right
    l_right_g := He.glo_ok X G (c.fact 31 (f := fFa (.glo "_law_right")) rfl)
    l_right_b := FunD.bindsN (ps := ["_law_bag_here", "_law_name", "_law_signs", "_law_last"]) F_l_right fun _ _ _ _ _ _ us hl => match us, hl with | [_, _, _, _], _ => rfl
    l_by_hand_a := _
    l_by_hand_d := fd_l_by_hand
    l_by_hand_f := F_l_by_hand
    l_by_hand_g := He.glo_ok X G (c.fact 32 (f := fFa (.glo "_law_by_hand")) rfl)
    l_by_hand_b := FunD.bindsN (ps := []) F_l_by_hand fun _ _ _ _ _ _ us hl => match us, hl with | [], _ => rfl
    law_a := _
    law_d := fd_law
    law_f := F_law
    law_g := He.glo_ok X G (c.fact 33 (f := fFa (.glo "law")) rfl)
    law_b := FunD.bindsN (ps := ["_law_script"]) F_law fun _ _ _ _ _ _ us hl => match us, hl with | [_], _ => rfl
    Code___init___k1_width := kb_width F_Code___init__
    Code___init___k1_pad_width := kb_pad_width F_Code___init__
    Code_base32_k0_width := kb_Code_base32_width F_Code_base32
    Code_base64_k0_width := kb_Code_base64_width F_Code_base64
    Code_base16_k0_width := kb_Code_base16_width F_Code_base16
    Code_base32_k0_ := kb_Code_base32_ F_Code_base32
    Code_base64_k0_ := kb_Code_base64_ F_Code_base64
    Code_base16_k0_ := kb_Code_base16_ F_Code_base16
    C_Code_n_parts := He.noat_ok (c.fact 34 (f := fFa (.noat "Code" "parts")) rfl)
    C_Code_n_sign_bits := He.noat_ok (c.fact 35 (f := fFa (.noat "Code" "sign_bits")) rfl)
    C_Code_n_digits := He.noat_ok (c.fact 36 (f := fFa (.noat "Code" "digits")) rfl)
    C_Code_r := fCRead_ok (c.fact 37 (f := fCRead "Code") rfl)
    C_Code_v_WIDEST := fCVal_ok (c.fact 38 (f := fCVal "Code" "WIDEST" (.int 76)) rfl)
    k_PRINTED_u := _
    k_PRINTED_g := h_PRINTED
    k_PRINTED_r := ⟨t_PRINTED, rfl⟩
    k_MOST_BYTES_u := _
    k_MOST_BYTES_g := h_MOST_BYTES
    k_MOST_BYTES_r := ⟨t_MOST_BYTES, rfl⟩
    k_GROUPS_a := He.ga K "GROUPS"
    k_GROUPS_g := He.glo_ok X G (c.fact 41 (f := fFa (.glo "GROUPS")) rfl)
    k_GROUPS_t := fun H => He.tupB_ok (c.fact 42 (f := fTup "GROUPS" [.int 0, .int 8, .int 4, .int 8, .int 2, .int 8, .int 4]) rfl) H
    k_NEWLINE_u := _
    k_NEWLINE_g := h_NEWLINE
    k_NEWLINE_r := ⟨t_NEWLINE, rfl⟩
    k_BITS_a := He.ga K "BITS"
    k_BITS_g := He.glo_ok X G (c.fact 44 (f := fFa (.glo "BITS")) rfl)
    k_BITS_d := idB_ok (c.fact 45 (f := (fun K => idB K (He.ga K "BITS") [(2, 1), (4, 2), (8, 3), (16, 4), (32, 5), (64, 6)])) rfl)
    n_abs := He.free_ok X G (c.fact 46 (f := fFa (.free "abs")) rfl)
    n_all := He.free_ok X G (c.fact 47 (f := fFa (.free "all")) rfl)
    n_bool := He.free_ok X G (c.fact 48 (f := fFa (.free "bool")) rfl)
    n_enumerate := He.free_ok X G (c.fact 49 (f := fFa (.free "enumerate")) rfl)
    n_int := He.free_ok X G (c.fact 50 (f := fFa (.free "int")) rfl)
    n_isinstance := He.free_ok X G (c.fact 51 (f := fFa (.free "isinstance")) rfl)
    n_len := He.free_ok X G (c.fact 52 (f := fFa (.free "len")) rfl)
    n_list := He.free_ok X G (c.fact 53 (f := fFa (.free "list")) rfl)
    n_max := He.free_ok X G (c.fact 54 (f := fFa (.free "max")) rfl)
    n_min := He.free_ok X G (c.fact 55 (f := fFa (.free "min")) rfl)
    n_range := He.free_ok X G (c.fact 56 (f := fFa (.free "range")) rfl)
    n_str := He.free_ok X G (c.fact 57 (f := fFa (.free "str")) rfl)
    n_super := He.free_ok X G (c.fact 58 (f := fFa (.free "super")) rfl)
    n_tuple := He.free_ok X G (c.fact 59 (f := fFa (.free "tuple")) rfl)
    C_Code_ne := fNe_ok (c.fact 60 (f := fNe "Code") rfl)
    C_Code_is := fIns_ok (c.fact 61 (f := fIns "Code") rfl)
    X_BadOption := _
    X_BadOption_f := _
    X_BadOption_F := XF_BadOption
    X_BadOption_g := He.glo_ok X G XF_BadOption.glo
    }, rfl, fun s v => FunD.bindsA (ps := ["_law_script"]) F_law (fun _ _ _ _ _ _ us hl => match us, hl with | [_], _ => rfl) s [v] rfl⟩
end
end Px
open PySem PySem.W PySem.Calls PyProof.Rows
set_option maxHeartbeats 0 in
theorem PySem.Challenge.cw_piecetexts_k02_known_codes_holds : PySem.Challenge.rw_piecetexts_k02_known_codes.Holds := by
  w_on; o_law
  refine HandSHeadRun.head_any (r := OpenLaw.row PySem.Challenge.rw_piecetexts_k02_known_codes) (q := view (OpenLaw.row PySem.Challenge.rw_piecetexts_k02_known_codes).prog [35]) (H := Px.hhook) (ob := Px.hob) (M := 6000) (loose := Px.hloose) (d := HandSHeadRun.topDef (OpenLaw.row PySem.Challenge.rw_piecetexts_k02_known_codes).prog 35) (kwd := []) Px.hob_eq
    (by kernel_rfl) (fun s => by kernel_rfl) Px.hrun (by kernel_rfl) (by kernel_rfl) (by kernel_rfl) (by rfl) (by first | assumption | decide +kernel) (by decide +kernel) ⟨rfl, rfl, rfl, rfl, rfl, by decide +kernel⟩ ?hw ?hc
  case hw => w_witness2
  case hc =>
    refine L2.walk_ofE (l := PySem.Challenge.rw_piecetexts_k02_known_codes) (n := 63) (k := 10) (x := "_law_script") (CX := L2.CX0) rfl (by decide) (by kernel_rfl) ⟨rfl, by decide, by decide⟩ ?F (fun _ _ _ _ z => z)
    intro w mg fa h Y G hmg0
    obtain ⟨K, KX, c⟩ := Y
    have hmg : mg ("law" : PySem.Str) = some (.ref fa) := by
      have e : (HandSHeadRun.topDef (OpenLaw.row PySem.Challenge.rw_piecetexts_k02_known_codes).prog 35).name = ("law" : PySem.Str) := by kernel_rfl
      rw [← e]
      exact hmg0
    obtain ⟨T, rfl, hb⟩ := Px.htxt KX G hmg c
    exact ⟨K, T.law_d, Px.sp_law T, KX, hb, fun H a ns hl _ hS => ⟨a, ns, rfl, hS, hl, fun _ => rfl⟩, fun base _ _ => Px.P_eq ▸ Px.ok_law T⟩


