import PyProof.Rows.All
import Wide.All
import OpenK.AllK
import Wide.FinOn
import HandS.ForMost
import HandS.IsInst
import HandS.Flow
import HandS.Style
import HandS.Wide
import HandS.Walk
import HandS.ClsMeth
import HandS.Property
import HandS.MakeKwOnly
import HandS.StrMore
import HandS.DictComp
import HandS.SetKeys
import HandS.TupAny
import HandS.Steps
import HandS.Defaults
import KE.GoesNew
import KE.GoesEnum
import KE.GoesMore
import HandS.RaiseMore
import KE.KRevSl
import PyProof.ReprRoads
import PyProof.ReprText
import HandS.HeadEnd
import KE.KxField
import HandS.FStr
import HandS.IntHex
import HandS.SetBool
import HandS.HeadHook1
import HandS.HeadHook2
import PyProof.Cells
import PyProof.ToksMono
import HandS.Replace
import HandS.ReplaceLit
import PyProof.StrOps2
import KE.KExcSuper
import HandS.Exc
import HandS.ExcInit
import HandS.ExcField
import HandS.ExcOwn
import HandS.WordsExc
import HandS.TryOnly
import HandS.Iter
import PyProof.EnumMake
import PyProof.InstEq
import HandS.HeadNt
import KE.KExcInit
import KE.KExcIs
import PyProof.ExcBaseAll.LookupError
import PyProof.ExcBaseAll.IndexError
import PyProof.ExcBaseAll.RuntimeError
import PyProof.ExcBaseAll.OverflowError
import PyProof.ExcBaseAll.TypeError
import PyProof.ExcBaseAll.ValueError
import KE.KCallOwn
import HandS.Star
import HandS.NoneIn
import HandS.Conv
import HandS.Deep
import PyProof.EqAt
import PyProof.EqKinds
import PyProof.TupleCall
import HandS.Base
import HandS.Call
import PyProof.InstSpecial
import PyProof.CodeObj
import KE.KLam
import HandS.List
import HandS.Codes
import HandS.Lambda
import HandS.Nested
import HandS.Comp
import HandS.Words
import HandS.HeadWalk
import PyProof.ListStr
import KE.GoesComp
import KE.GoesRaise
import HandS.Head0
import HandS.Head1
import HandS.Head2
import PySem.Challenge.RW_piecetexts_k19_right_texts_told
set_option Elab.async false
set_option linter.all false
set_option maxRecDepth 100000
set_option maxHeartbeats 1000000
namespace Px
open PySem PySem.Spec PyProof.Rows L2
abbrev S := L2.St

/-! ### heaps that grow -/
def SameB (b : Addr) (H H' : Hp) : Prop := ∀ a o, a ≠ b → H a = some o → H' a = some o
theorem same_new {H : Hp} {p : Addr} {o : HO} (h : H p = none) : Same H (upd H p o) := fun a u e => (upd_ne (ne_of_none e h)).trans e
theorem same_mut {H H' : Hp} {p : Addr} {o : HO} (e : Same H H') (h : H p = none) : Same H (upd H' p o) := fun a u ha => (upd_ne (ne_of_none ha h)).trans (e a u ha)
theorem same_mutB {H H' : Hp} {p : Addr} (h : H p = none) {H1 : Hp} (e : Same H H1) (e2 : SameB p H1 H') : Same H H' := fun a u ha => e2 a u (ne_of_none ha h) (e a u ha)
theorem sameB_upd {H : Hp} {b : Addr} {o : HO} : SameB b H (upd H b o) := fun a u n e => (upd_ne n).trans e
theorem SameB.refl (b : Addr) (H : Hp) : SameB b H H := fun _ _ _ h => h
theorem SameB.trans {b : Addr} {H H1 H2 : Hp} (x : SameB b H H1) (y : SameB b H1 H2) : SameB b H H2 := fun a o n h => y a o n (x a o n h)
theorem toB {b : Addr} {H H' : Hp} (e : Same H H') : SameB b H H' := fun a o _ h => e a o h
theorem SameB.free {b : Addr} {H H' : Hp} (e : SameB b H H') {l : Addr} (n : l ≠ b) (h : H' l = none) : H l = none := by
  cases q : H l with
  | none => rfl
  | some o => rw [e l o n q] at h; cases h
theorem gs {H H' : Hp} {a : Addr} {o : HO} (e : Same H H') (h : H a = some o) : H' a = some o := e a o h
theorem gb {b : Addr} {H H' : Hp} {a : Addr} {o : HO} (e : SameB b H H') (n : a ≠ b) (h : H a = some o) : H' a = some o := e a o n h
theorem gu {b : Addr} {H : Hp} {a : Addr} {o u : HO} (n : a ≠ b) (h : H a = some o) : upd H b u a = some o := (upd_ne n).trans h
section
variable {K : PySem.W.Frag} {H H' : Hp} {a b : Addr} {xs : List V}
theorem ql (h : H a = some (.lst xs)) : SqL K H a xs := .inl (.inl h)
theorem qt (h : H a = some (.tup xs)) : SqT K H a xs := .inl (.inl h)
theorem gsl (e : Same H H') (h : SqL K H a xs) : SqL K H' a xs := e.seq h
theorem gst (e : Same H H') (h : SqT K H a xs) : SqT K H' a xs := by
  rcases h with (h | ⟨o, h⟩) | h
  · exact .inl (.inl (e _ _ h))
  · exact .inl (.inr ⟨o, e _ _ h⟩)
  · exact .inr h
theorem gbl (e : SameB b H H') (n : a ≠ b) (h : SqL K H a xs) : SqL K H' a xs := by
  rcases h with (h | ⟨o, h⟩) | h
  · exact .inl (.inl (e _ _ n h))
  · exact .inl (.inr ⟨o, e _ _ n h⟩)
  · exact .inr h
theorem gbt (e : SameB b H H') (n : a ≠ b) (h : SqT K H a xs) : SqT K H' a xs := by
  rcases h with (h | ⟨o, h⟩) | h
  · exact .inl (.inl (e _ _ n h))
  · exact .inl (.inr ⟨o, e _ _ n h⟩)
  · exact .inr h
mutual
theorem dps (e : Same H H') : ∀ (d : PyData) (v : V), Dp K H v d → Dp K H' v d
  | .none, _, h => by cases h; exact .non
  | .bool _, _, h => by cases h; exact .bl _
  | .int _, _, h => by cases h; exact .int _
  | .str _, _, h => by cases h; exact .str _
  | .list ds, _, h => by
    cases h with
    | lst hs ha => exact .lst (gsl e hs) (dpsAll e ds _ ha)
  | .tuple ds, _, h => by
    cases h with
    | tup hs ha => exact .tup (gst e hs) (dpsAll e ds _ ha)
  | .dict _, _, h => by cases h
theorem dpsAll (e : Same H H') : ∀ (ds : List PyData) (vs : List V), DpAll K H vs ds → DpAll K H' vs ds
  | [], _, h => by cases h; exact .nil
  | d :: ds, _, h => by
    cases h with
    | cons h1 h2 => exact .cons (dps e d _ h1) (dpsAll e ds _ h2)
end
end

/-! ### one step of a reading -/
section
variable {K : PySem.W.Frag} {σ : S} {H : Hp} {Q : VK} {D : Ends} {t u : TS} {ta tb te tc : TE} {x y v : V} {tr : TA} {i : Nat} {g : TG} {c c2 : TT}
theorem r_seq (h : t { D with nx := u D } σ H) : tSeq t u D σ H := h
theorem r_next (h : D.nx σ H) : tNext D σ H := h
theorem r_ret (h : te σ H D.rt) : tRet te D σ H := h
theorem r_retN (h : D.rt .non H) : tRetN D σ H := h
theorem r_asg (h : te σ H fun x H1 => g x σ H1 D.nx) : tAsg te g D σ H := h
theorem r_drop (h : te σ H fun _ H1 => D.nx σ H1) : tDrop te D σ H := h
theorem r_ifs (h : c σ H fun b H1 => if b = true then t D σ H1 else u D σ H1) : tIfS c t u D σ H := h
theorem r_brk (h : D.bk σ H) : tBreak D σ H := h
theorem r_cont (h : D.ct σ H) : tCont D σ H := h
theorem r_gname {P : S → Hp → Prop} (h : P (σ.set i (some v)) H) : gName i v σ H P := h
theorem r_gtup {n : Nat} {gs : TGs} {a : Addr} {xs : List V} {P : S → Hp → Prop} (h1 : SqT K H a xs) (h2 : xs.length = n) (h : gs xs σ H P) : gTup K n gs (.ref a) σ H P := ⟨a, xs, rfl, h1, h2, h⟩
theorem r_gcons {gs : TGs} {xs : List V} {P : S → Hp → Prop} (h : g x σ H fun σ' H' => gs xs σ' H' P) : gCons g gs (x :: xs) σ H P := ⟨x, xs, rfl, h⟩
theorem r_gnil {P : S → Hp → Prop} (h : P σ H) : gNil [] σ H P := ⟨rfl, h⟩
theorem r_gsub {ts : TSet} {P : S → Hp → Prop} (h : ta σ H fun o H1 => tb σ H1 fun i H2 => ts o i v H2 fun H3 => P σ H3) : gSub ta tb ts v σ H P := h
theorem r_setL {p : Addr} {xs : List V} {k : Int} {j : Nat} {P : Hp → Prop} (h1 : H p = some (.lst xs)) (h2 : ixN xs.length k = some j) (h : P (upd H p (.lst (xs.set j v)))) : rSetL (.ref p) (.int k) v H P := ⟨p, xs, k, j, rfl, rfl, h1, h2, h⟩
theorem r_aug {ti : TIp} (hx : σ[i]? = some (some x)) (h : te σ H fun y H1 => ti x y H1 fun z H2 => D.nx (σ.set i (some z)) H2) : tAug i te ti D σ H := ⟨x, hx, h⟩
theorem r_par {j : Nat} (h : tr σ H fun vs H1 => ∃ v w, vs = [v, w] ∧ D.nx ((σ.set i (some v)).set j (some w)) H1) : tPar i j tr D σ H := h
theorem r_two {P : V → V → Prop} (h : P x y) : ∃ v w, [x, y] = [v, w] ∧ P v w := ⟨x, y, rfl, h⟩
theorem r_var (h1 : σ[i]? = some (some v)) (h : Q v H) : tVar i σ H Q := ⟨v, h1, h⟩
theorem r_c (h : Q v H) : tC v σ H Q := h
theorem r_op {r : R2} (h : ta σ H fun x H1 => tb σ H1 fun y H2 => r x y H2 Q) : tOp r ta tb σ H Q := h
theorem r_un {r : V → Hp → VK → Prop} (h : ta σ H fun x H1 => r x H1 Q) : tUn r ta σ H Q := h
theorem r_if (h : c σ H fun b H1 => if b = true then ta σ H1 Q else tb σ H1 Q) : tIf c ta tb σ H Q := h
theorem r_test {P : Bool → Hp → Prop} (h : te σ H fun x H' => ∃ k, x = .bl k ∧ P k H') : tTest te σ H P := h
theorem r_b {P : Bool → Hp → Prop} (h : te σ H fun x H' => ∃ k, x = .bl k ∧ P k H') : tB te σ H P := h
theorem r_bl {b : Bool} {P : Bool → Prop} (h : P b) : ∃ k, V.bl b = V.bl k ∧ P k := ⟨b, rfl, h⟩
theorem r_and {P : Bool → Hp → Prop} (h : c σ H fun b H1 => if b = true then c2 σ H1 P else P false H1) : tAnd c c2 σ H P := h
theorem r_or {P : Bool → Hp → Prop} (h : c σ H fun b H1 => if b = true then P true H1 else c2 σ H1 P) : tOr c c2 σ H P := h
theorem r_not {P : Bool → Hp → Prop} (h : c σ H fun b H1 => P (!b) H1) : tNot c σ H P := h
theorem r_andV (h : ta σ H fun x H1 => ∃ c, x = .bl c ∧ if c = true then tb σ H1 Q else Q (.bl false) H1) : tAndV ta tb σ H Q := h
theorem r_orV (h : ta σ H fun x H1 => ∃ c, x = .bl c ∧ if c = true then Q (.bl true) H1 else tb σ H1 Q) : tOrV ta tb σ H Q := h
theorem r_notV (h : ta σ H fun x H1 => ∃ c, x = .bl c ∧ Q (.bl (!c)) H1) : tNotV ta σ H Q := h
theorem r_chain {r r' : R2} (h : ta σ H fun x H1 => tb σ H1 fun y H2 => r x y H2 fun z H3 => ∃ k, z = .bl k ∧ (if k = true then tc σ H3 fun w' H4 => r' y w' H4 Q else Q (.bl false) H3)) : tChain r r' ta tb tc σ H Q := h
theorem r_nil {P : List V → Hp → Prop} (h : P [] H) : tNil σ H P := h
theorem r_cons {P : List V → Hp → Prop} (h : ta σ H fun x H1 => tr σ H1 fun xs H2 => P (x :: xs) H2) : tCons ta tr σ H P := h

theorem same_of {H H2 : Hp} {p : Addr} {o : HO} (h : upd H p o = H2) (n : H p = none) : Same H H2 := h ▸ same_new n
theorem at_of {H H2 : Hp} {p : Addr} {o : HO} (h : upd H p o = H2) : H2 p = some o := h ▸ upd_same
theorem sameB_of {H H2 : Hp} {p : Addr} {o : HO} (h : upd H p o = H2) : SameB p H H2 := h ▸ sameB_upd
theorem r_tup (h : tr σ H fun xs H1 => xs.length ≤ sizeLine ∧ ∀ p, H1 p = none → Q (.ref p) (upd H1 p (.tup xs))) : tTup tr σ H Q := h
theorem r_lst (h : tr σ H fun xs H1 => xs.length ≤ sizeLine ∧ ∀ p, H1 p = none → Q (.ref p) (upd H1 p (.lst xs))) : tLst tr σ H Q := h
theorem r_call {sp : Sp} {dvs : List V} {E : XK} (h : tr σ H fun vs H1 => sp (vs ++ dvs) H1 Q E) : tCall sp dvs E tr σ H Q := h
theorem r_cb {r : List V → Hp → VK → Prop} (h : tr σ H fun vs H1 => r vs H1 Q) : tCB r tr σ H Q := h
theorem r_I0 {g : Int → Int → V} {i j : Int} (h : Q (g i j) H) : rI0 g (.int i) (.int j) H Q := ⟨i, j, rfl, rfl, h⟩
theorem r_I {C : Int → Int → Prop} {g : Int → Int → V} {i j : Int} (hc : C i j) (h : Q (g i j) H) : rI C g (.int i) (.int j) H Q := ⟨i, j, rfl, rfl, hc, h⟩
theorem r_eqI {i j : Int} (h : Q (.bl (decide (i = j))) H) : rEq (.int i) (.int j) H Q := ⟨rfl, by
  have e : decide (V.int i = V.int j) = decide (i = j) := by simp
  rw [e]; exact h⟩
theorem r_neI {i j : Int} (h : Q (.bl (!decide (i = j))) H) : rNe (.int i) (.int j) H Q := ⟨rfl, by
  have e : decide (V.int i = V.int j) = decide (i = j) := by simp
  rw [e]; exact h⟩
theorem r_eqS {i j : Str} (h : Q (.bl (decide (i = j))) H) : rEq (.str i) (.str j) H Q := ⟨rfl, by
  have e : decide (V.str i = V.str j) = decide (i = j) := by simp
  rw [e]; exact h⟩
theorem r_neS {i j : Str} (h : Q (.bl (!decide (i = j))) H) : rNe (.str i) (.str j) H Q := ⟨rfl, by
  have e : decide (V.str i = V.str j) = decide (i = j) := by simp
  rw [e]; exact h⟩
theorem r_eqB {i j : Bool} (h : Q (.bl (decide (i = j))) H) : rEq (.bl i) (.bl j) H Q := ⟨rfl, by
  have e : decide (V.bl i = V.bl j) = decide (i = j) := by simp
  rw [e]; exact h⟩
theorem r_ixL {p : Addr} {xs : List V} {i : Int} (h1 : SqL K H p xs) (h2 : atI xs i = some v) (h : Q v H) : rIx K (.ref p) (.int i) H Q := .inl ⟨p, xs, i, v, rfl, rfl, h1, h2, h⟩
theorem r_ixT {p : Addr} {xs : List V} {i : Int} (h1 : SqT K H p xs) (h2 : atI xs i = some v) (h : Q v H) : rIx K (.ref p) (.int i) H Q := .inr (.inl ⟨p, xs, i, v, rfl, rfl, h1, h2, h⟩)
theorem r_ixS {z : Str} {i : Int} {c : Nat} (h1 : z.length ≤ sizeLine) (h2 : atI z.cps.toList i = some c) (h : Q (.str ⟨#[c]⟩) H) : rIx K (.str z) (.int i) H Q := .inr (.inr ⟨z, i, c, rfl, rfl, h1, h2, h⟩)
theorem r_iteD {p A B : Prop} [Decidable p] (h1 : p → A) (h2 : ¬p → B) : if decide p = true then A else B := by
  by_cases q : p
  · rw [if_pos (decide_eq_true q)]; exact h1 q
  · rw [if_neg (by simpa using q)]; exact h2 q
theorem r_iteND {p A B : Prop} [Decidable p] (h1 : ¬p → A) (h2 : p → B) : if (!decide p) = true then A else B := by
  by_cases q : p
  · rw [if_neg (by simpa using q)]; exact h2 q
  · rw [if_pos (by simpa using q)]; exact h1 q
theorem r_iteB {b : Bool} {A B : Prop} (h1 : b = true → A) (h2 : b = false → B) : if b = true then A else B := by
  cases b
  · rw [if_neg Bool.false_ne_true]; exact h2 rfl
  · rw [if_pos rfl]; exact h1 rfl
theorem r_iteT {A B : Prop} (h : A) : if true = true then A else B := by rw [if_pos rfl]; exact h
theorem r_iteF {A B : Prop} (h : B) : if false = true then A else B := by rw [if_neg Bool.false_ne_true]; exact h
end
end Px

namespace Px
open PySem PySem.Spec PyProof.Rows L2

/-! ### operators by any kind of value -/
abbrev rAddI : R2 := rI0 fun i j => .int (i + j)
abbrev rSubI : R2 := rI0 fun i j => .int (i - j)
abbrev rLtI : R2 := rI0 fun i j => .bl (decide (i < j))
abbrev rLeI : R2 := rI0 fun i j => .bl (decide (i ≤ j))
abbrev rGtI : R2 := rI0 fun i j => .bl (decide (j < i))
abbrev rGeI : R2 := rI0 fun i j => .bl (decide (j ≤ i))
abbrev rFdivI : R2 := rI CDivN fun i j => .int (i.fdiv j)
abbrev rModI : R2 := rI (fun _ j => j ≠ 0) fun i j => .int (i.fmod j)
abbrev rPowI : R2 := rI CPow fun i j => .int (i ^ j.toNat)
abbrev rMulI : R2 := rI CMul fun i j => .int (i * j)
abbrev rNegI : V → Hp → VK → Prop := rU fun i => .int (-i)
def rAddS : R2 := fun x y H Q => ∃ i j, x = .str i ∧ y = .str j ∧ i.length + j.length ≤ sizeLine ∧ Q (.str (i ++ j)) H
def rAddU (K : PySem.W.Frag) : R2 := fun x y H Q => rAddI x y H Q ∨ rAddS x y H Q ∨ rCat x y H Q ∨ rCatA K x y H Q
def rMulU (K : PySem.W.Frag) : R2 := fun x y H Q => rMulI x y H Q ∨ rRep x y H Q
def rEqU (K : PySem.W.Frag) : R2 := fun x y H Q => rEq x y H Q ∨ rEqD K x y H Q
def rNeU (K : PySem.W.Frag) : R2 := fun x y H Q => rNe x y H Q ∨ rNeD K x y H Q
def rIsNN : R2 := fun x y H Q => y = .non ∧ Q (.bl (decide (x = .non))) H
def rNotNN : R2 := fun x y H Q => y = .non ∧ Q (.bl (!decide (x = .non))) H
def rInU (K : PySem.W.Frag) : R2 := fun x y H Q => rInS x y H Q ∨ rIn K false x y H Q
def rNinU (K : PySem.W.Frag) : R2 := fun x y H Q => rNotInS x y H Q ∨ rIn K true x y H Q
def rSlU (K : PySem.W.Frag) : V → Option Int → Option Int → Hp → VK → Prop := fun x lo hi H Q => rSlL K x lo hi H Q ∨ rSlS x lo hi H Q ∨ rSlA K x lo hi H Q
section
variable {X : Cx}
theorem op_addU : OpR X (binaryOp .Add) (rAddU X.K) := OpR.or op_add (OpR.or op_add_str (OpR.or op_cat op_catA))
theorem op_mulU : OpR X (binaryOp .Mult) (rMulU X.K) := OpR.or op_mul op_rep
theorem op_eqU (hu : X.A.units + 64 < cLine) : OpR X (compareOp .Eq) (rEqU X.K) := OpR.or op_eq (op_eqD hu)
theorem op_neU (hu : X.A.units + 64 < cLine) : OpR X (compareOp .NotEq) (rNeU X.K) := OpR.or op_ne (op_neD hu)
theorem op_inU : OpR X (compareOp .In) (rInU X.K) := OpR.or op_inS op_in_seq
theorem op_ninU : OpR X (compareOp .NotIn) (rNinU X.K) := OpR.or op_notInS op_notIn_seq
theorem sl_U : SlR X (rSlU X.K) := SlR.or sl_list (SlR.or sl_str sl_tupA)
theorem hu64 {k : Nat} {A : Around} (hr : Room k A) : A.units + 64 < cLine := hr.units

/-! ### three comparisons in a chain -/
def tChain3 (r r' r'' : R2) (ta tb tc td : TE) : TE := fun σ H Q => ta σ H fun x H1 => tb σ H1 fun y H2 => r x y H2 fun z H3 => ∃ k, z = .bl k ∧
  (if k = true then tc σ H3 fun y' H4 => r' y y' H4 fun z' H5 => ∃ k', z' = .bl k' ∧ (if k' = true then td σ H5 fun w' H6 => r'' y' w' H6 Q else Q (.bl false) H5) else Q (.bl false) H3)
theorem pt_chain3 {op op' op'' : CmpOp} {r r' r'' : R2} {a b c d : Expr} {ta tb tc td : TE} {pos : Pos} (ho : OpR X (compareOp op) r) (ho' : OpR X (compareOp op') r') (ho'' : OpR X (compareOp op'') r'')
    (ha : PE X a ta) (hb : PE X b tb) (hc : PE X c tc) (hd : PE X d td)
    (hm : lastMarks [op, op', op''] [b, c, d] = false := by with_unfolding_all rfl) : PT X (.Compare a [op, op', op''] [b, c, d] pos) (tTest (tChain3 r r' r'' ta tb tc td)) := by
  refine ⟨fun pins s σ H Q I h => ?_⟩
  refine isTrue_chain (thn (ha.run pins s σ H _ I h) fun v s1 ⟨x, H1, I1, r1, q1⟩ => test_link (thn (hb.run pins s1 σ H1 _ I1 q1) fun u s2 ⟨y, H2, I2, r2, q2⟩ =>
    thn (ho pins s2 σ H2 x y v u _ I2 r1 r2 q2) fun d1 s3 ⟨z, H3, I3, r3, k, e, q3⟩ => ?_)) hm
  subst e
  cases r3
  refine wpAny_truthy_bool ?_
  cases k with
  | false =>
    obtain ⟨k', e', q'⟩ := q3
    cases e'
    exact ite_ff ⟨H3, I3, q'⟩
  | true =>
    refine ite_tt (test_link (thn (hc.run pins s3 σ H3 _ I3 q3) fun u4 s4 ⟨y4, H4, I4, r4, q4⟩ =>
      thn (ho' pins s4 σ H4 y y4 u u4 _ I4 r2 r4 q4) fun d2 s5 ⟨z5, H5, I5, r5, k5, e5, q5⟩ => ?_))
    subst e5
    cases r5
    refine wpAny_truthy_bool ?_
    cases k5 with
    | false =>
      obtain ⟨k', e', q'⟩ := q5
      cases e'
      exact ite_ff ⟨H5, I5, q'⟩
    | true =>
      refine ite_tt (test_last (thn (hd.run pins s5 σ H5 _ I5 q5) fun w6 s6 ⟨z6, H6, I6, r6, q6⟩ => thn (ho'' pins s6 σ H6 y4 z6 u4 w6 _ I6 r4 r6 q6) fun d' s7 ⟨z7, H7, I7, r7, k7, e7, q7⟩ => ?_))
      subst e7
      cases r7
      exact wpAny_truthy_bool ⟨H7, I7, q7⟩

/-! ### walks over a list, a tuple, a text -/
theorem PI.or {tg e : Expr} {w1 w2 : TI} (h1 : PI X tg e w1) (h2 : PI X tg e w2) : PI X tg e (fun σ H R => w1 σ H R ∨ w2 σ H R) := by
  refine ⟨fun pins s σ H R I h => ?_⟩
  rcases h with h | h
  · exact h1.run pins s σ H R I h
  · exact h2.run pins s σ H R I h
def iSeqU (K : PySem.W.Frag) (te : TE) : TI := fun σ H R => iList K te σ H R ∨ iTup K te σ H R ∨ iStr te σ H R
theorem pi_seqU {tg e : Expr} {te : TE} (he : PE X e te) : PI X tg e (iSeqU X.K te) := PI.or (pi_list he) (PI.or (pi_tup he) (pi_str he))
end

/-- an iterator that gives new pairs, by the library's Goes -/
def ItP (n : Nat) (f g : Nat → Option V) : It :=
  ⟨fun i _ => i < n, fun i H v H' => ∃ T x y, v = .ref T ∧ H T = none ∧ H' = upd H T (.tup [x, y]) ∧ f i = some x ∧ g i = some y, fun i _ => i = n⟩
theorem turn_pairs {P : Program} {w : World} {K : PySem.W.Frag} {tg : Expr} {it : Addr} {fp wr : List Addr} {n : Nat} {Y : Nat → Heap → Value → Heap → Prop} {St : Nat → Heap → Prop} {f g : Nat → Option V}
    (W : ∀ A : Around, A.handled = none → GoesN P w A tg it fp wr n Y St)
    (hY : ∀ i h v h', Y i h v h' → ∃ T a b x y, v = .ref T ∧ h.objs.size ≤ T ∧ h'.IsTuple T #[a, b] ∧ f i = some x ∧ g i = some y ∧ RelV x a ∧ RelV y b)
    (hself : ∀ (A : Around) (i : Nat) (s : Shared) (Q : Value → Shared → Prop) (E : Value → Shared → Prop), St i s.heap → Q (.ref it) s → wpAny (model P w) A (pyIter (.ref it)) Q E s)
    (mem : it ∈ fp) (obj : ∀ i h, St i h → ∀ b ∈ fp, ∃ o, h.get? b = some o ∧ ∀ v, o.data ≠ .cell v) : Turn P w K tg (ItP n f g) fp it St where
  mem := mem
  obj := obj
  keep := (W { handled := none } rfl).frame
  item := by
    intro X hP hw hK hc i pins s σ H E I hf st hi
    subst hP hw hK
    have G := W X.A (I.ok.hd hc)
    refine G.goes i s _ E hi st fun v h' tk hy st' hk _ => ?_
    obtain ⟨T, a, b, x, y, rfl, hT, ht, e1, e2, ra, rb⟩ := hY _ _ _ _ hy
    have hn : H T = none := I.hok.fresh hT
    have new : ObjOk X.prog X.w (upd H T (.tup [x, y])) h' T (.tup [x, y]) := ⟨by show 2 ≤ sizeLine; decide, [a, b], .cons ra (.cons rb .nil), ht⟩
    refine ⟨.ref T, _, I.turnedNew (ch := fp) (fun b o hb q => hk b o (fun z => hb (G.sub b z)) q) hf hT new, rfl, ⟨T, x, y, rfl, hn, rfl, e1, e2⟩, st', fun c hcm => ?_⟩
    have hlt : c < s.heap.objs.size := by
      obtain ⟨o, ho, _⟩ := obj i s.heap st c hcm
      exact Heap.lt_size ho
    rw [upd_ne (Nat.ne_of_lt (Nat.lt_of_lt_of_le hlt hT))]
    exact (hf c hcm).1
  done := by
    intro X hP hw hK hc i pins s σ H E I hf st hi
    subst hP hw hK
    have hi' : i = n := hi
    subst hi'
    have G := W X.A (I.ok.hd hc)
    exact G.stops s _ E st fun h' tk hk _ => I.turnedL (ch := fp) (fun b o hb q => hk b o (fun z => hb (G.sub b z)) q) hf
  self := hself
theorem walk_pairs {n : Nat} {f g : Nat → Option V} : Walk (ItP n f g) n (fun _ => True) (YPair f g) :=
  ⟨fun _ _ hi _ => hi, fun _ _ => rfl, fun _ _ _ _ _ _ y => y⟩

/-! ### zip and enumerate over texts -/
def sgn (z : Str) (i : Nat) : Option V := (z.cps[i]?).map fun c => .str ⟨#[c]⟩
theorem sgn_of {z : Str} {i c : Nat} {u : Tok} {v : Value} (h : z.cps[i]? = some c) (e : v = .str ⟨#[c]⟩ u) : sgn z i = some (.str ⟨#[c]⟩) ∧ RelV (.str ⟨#[c]⟩) v := by
  unfold sgn
  rw [h]
  exact ⟨rfl, u, e⟩
theorem striter_obj {h : Heap} {b : Addr} {ty : String} {z : Str} {t : Tok} {i : Nat} (st : h.IsStrIter b ty z t i) : ∃ o, h.get? b = some o ∧ ∀ v, o.data ≠ .cell v := by
  obtain ⟨o, e, _, d⟩ := st
  exact ⟨o, e, fun v q => by rw [d] at q; cases q⟩
def iZipS (ta : TA) : TI := fun σ H R => ta σ H fun vs H1 => ∃ y z : Str, vs = [.str y, .str z] ∧ R (ItP (min y.cps.size z.cps.size) (sgn y) (sgn z)) H1
def iEnumS (ta : TA) : TI := fun σ H R => ta σ H fun vs H1 => ∃ z : Str, vs = [.str z] ∧ R (ItP z.cps.size (fun i => some (.int (i : Nat))) (sgn z)) H1
section
variable {X : Cx}
theorem pi_zipS {e e2 : Expr} {ta : TA} {p pos tpos : Pos} {elts : List Expr} {kk : Nat} (hg : Gl X "zip") (hm : X.mg "zip" = none) (ha : PA X [e, e2] ta)
    (hs : starEach [e, e2] X.env = (false, eval e X.env) :: starEach [e2] X.env := by rfl) (hpl : (backTo pos (starEach [e2] X.env)).any (·.1) = false := by rfl) :
    PI X (.Tuple elts kk tpos) (.Call (.Name "zip" p) [e, e2] [] pos) (iZipS ta) := by
  refine ⟨fun pins s σ H R I h => ?_⟩
  refine Call_ (ld_blt I hg hm PyProof.Rows.boot_zip (PyProof.Rows.callWith_type1 (thn (ha.run pos pins s σ H _ I h) fun us s1 ⟨vs, H1, I1, r1, q1⟩ => ?_) hs hpl))
  obtain ⟨y, z, rfl, q⟩ := q1
  cases r1 with
  | cons r rr =>
    cases rr with
    | cons r' rr =>
      cases rr
      obtain ⟨t, rfl⟩ := r
      obtain ⟨t', rfl⟩ := r'
      refine zip_begins2 (begins_text y t) (begins_text z t') trivial trivial fun h' hz hTI hTO h1 h2 hsz hk => wpAny_pyIter_zip hz ?_
      have I2 : Inv X pins σ H1 { s1 with heap := h' } := I1.kept (t' := s1.toks) hk
      have St0 : ∀ {j : Addr} {x : Str} {u : Tok}, h'.get? j = some { cls := .type (strIterType x), data := .fields #[.str x u, .int 0 0] } → h'.IsStrIter j (strIterType x) x u 0 := fun e => ⟨_, e, rfl, rfl⟩
      refine ⟨s1.heap.objs.size + 4, (s1.heap.objs.size + 4) :: (s1.heap.objs.size + 2) :: (s1.heap.objs.size + 3) :: ([s1.heap.objs.size] ++ [s1.heap.objs.size + 1]),
        fun i h => IsZip h (s1.heap.objs.size + 4) (s1.heap.objs.size + 2) (s1.heap.objs.size + 3) .none ∧ IsTupOf2 h (s1.heap.objs.size + 2) (.ref s1.heap.objs.size) (.ref (s1.heap.objs.size + 1)) ∧ (∃ a1 a2, IsTupOf2 h (s1.heap.objs.size + 3) a1 a2) ∧
          h.IsStrIter s1.heap.objs.size (strIterType y) y t i ∧ h.IsStrIter (s1.heap.objs.size + 1) (strIterType z) z t' i, _, H1, rfl, I2,
        turn_pairs (n := min y.cps.size z.cps.size) (fun A hA => GoesN.zip2 (zip_sep2 (fp1 := []) (fp2 := []) (fun _ hb => absurd hb List.not_mem_nil) fun _ hb => absurd hb List.not_mem_nil) (Draws.text (A := A.in1) hA _ y t) (Draws.text (A := A.in1) hA _ z t')) ?hY (fun A i s Q E st h => wpAny_pyIter_zip st.1 h) (by simp) ?obj,
        ⟨hz, hTI, ⟨_, _, hTO⟩, St0 h1, St0 h2⟩, fun b hb => ?_, q⟩
      case hY =>
        rintro i h v h' ⟨T, a, b, rfl, hT, ⟨c, u, hc, ea⟩, ⟨c', u', hc', eb⟩, ht⟩
        obtain ⟨e1, r1⟩ := sgn_of hc ea
        obtain ⟨e2, r2⟩ := sgn_of hc' eb
        exact ⟨T, a, b, _, _, rfl, hT, ht, e1, e2, r1, r2⟩
      case obj =>
        rintro i h ⟨hz, hTI, ⟨a1, a2, hTO⟩, s1', s2'⟩ b hb
        have e' : b = s1.heap.objs.size + 4 ∨ b = s1.heap.objs.size + 2 ∨ b = s1.heap.objs.size + 3 ∨ b = s1.heap.objs.size ∨ b = s1.heap.objs.size + 1 := by simpa using hb
        rcases e' with q | q | q | q | q
        · rw [q]; exact ⟨_, hz, fun v z => nomatch z⟩
        · rw [q]; exact ⟨_, hTI, fun v z => nomatch z⟩
        · rw [q]; exact ⟨_, hTO, fun v z => nomatch z⟩
        · rw [q]; exact striter_obj s1'
        · rw [q]; exact striter_obj s2'
      · have e' : b = s1.heap.objs.size + 4 ∨ b = s1.heap.objs.size + 2 ∨ b = s1.heap.objs.size + 3 ∨ b = s1.heap.objs.size ∨ b = s1.heap.objs.size + 1 := by simpa using hb
        have hle : s1.heap.objs.size ≤ b := by
          rcases e' with z | z | z | z | z
          · rw [z]; exact Nat.le_add_right _ _
          · rw [z]; exact Nat.le_add_right _ _
          · rw [z]; exact Nat.le_add_right _ _
          · rw [z]; exact Nat.le_refl _
          · rw [z]; exact Nat.le_add_right _ _
        exact I1.fpOk hle (I1.hok.fresh hle)
theorem pi_enumS {e : Expr} {ta : TA} {p pos tpos : Pos} {elts : List Expr} {kk : Nat} (hg : Gl X "enumerate") (hm : X.mg "enumerate" = none) (ha : PA X [e] ta) (hs : starEach [e] X.env = [(false, eval e X.env)] := by rfl) :
    PI X (.Tuple elts kk tpos) (.Call (.Name "enumerate" p) [e] [] pos) (iEnumS ta) := by
  refine ⟨fun pins s σ H R I h => ?_⟩
  refine Call_ (ld_blt I hg hm boot_enumerate (PyProof.Rows.callWith_type1 (thn (ha.run pos pins s σ H _ I h) fun us s1 ⟨vs, H1, I1, r1, q1⟩ => ?_) hs rfl))
  obtain ⟨z, rfl, q⟩ := q1
  cases r1 with
  | cons r rr =>
    cases rr
    obtain ⟨t, rfl⟩ := r
    refine call_enumerate_str fun h' he hit hsz hk => wpAny_pyIter_enum he ?_
    have I2 : Inv X pins σ H1 { s1 with heap := h' } := I1.kept (t' := s1.toks) hk
    have hne : s1.heap.objs.size + 1 ∉ [s1.heap.objs.size] := by
      intro hm
      have := List.mem_singleton.mp hm
      exact absurd this (Nat.succ_ne_self _)
    refine ⟨s1.heap.objs.size + 1, (s1.heap.objs.size + 1) :: [s1.heap.objs.size],
      fun i h => (∃ old, IsEnum h (s1.heap.objs.size + 1) s1.heap.objs.size (0 + (i : Int)) old) ∧ h.IsStrIter s1.heap.objs.size (strIterType z) z t i, _, H1, rfl, I2,
      turn_pairs (n := z.cps.size) (fun A hA => GoesN.enumFrom 0 (Draws.text (A := A.in1) hA s1.heap.objs.size z t) (s1.heap.objs.size + 1) (Nat.succ_ne_self _) hne (by simp)) ?hY (fun A i s Q E st h => wpAny_pyIter_enum st.1.choose_spec h) (by simp) ?obj,
      ⟨⟨.none, he⟩, hit⟩, fun b hb => ?_, q⟩
    case hY =>
      rintro i h v h' ⟨T, u, x, rfl, hT, ⟨c, u', hc, ea⟩, ht⟩
      obtain ⟨e1, r1⟩ := sgn_of hc ea
      exact ⟨T, _, x, .int (i : Nat), _, rfl, hT, ht, rfl, e1, ⟨u, by simp⟩, r1⟩
    case obj =>
      rintro i h ⟨⟨old, he⟩, s1'⟩ b hb
      have e' : b = s1.heap.objs.size + 1 ∨ b = s1.heap.objs.size := by simpa using hb
      rcases e' with q | q
      · rw [q]; exact ⟨_, he, fun v z => nomatch z⟩
      · rw [q]; exact striter_obj s1'
    · have e' : b = s1.heap.objs.size + 1 ∨ b = s1.heap.objs.size := by simpa using hb
      have hle : s1.heap.objs.size ≤ b := by
        rcases e' with z | z
        · rw [z]; exact Nat.le_add_right _ _
        · rw [z]; exact Nat.le_refl _
      exact I1.fpOk hle (I1.hok.fresh hle)
def iZipU (K : PySem.W.Frag) (ta : TA) : TI := fun σ H R => iZip K ta σ H R ∨ iZipS ta σ H R
def iEnumU (K : PySem.W.Frag) (ta : TA) : TI := fun σ H R => iEnum K ta σ H R ∨ iEnumS ta σ H R
theorem pi_zipU {e e2 : Expr} {ta : TA} {p pos tpos : Pos} {elts : List Expr} {kk : Nat} (hg : Gl X "zip") (hm : X.mg "zip" = none) (ha : PA X [e, e2] ta)
    (hs : starEach [e, e2] X.env = (false, eval e X.env) :: starEach [e2] X.env := by rfl) (hpl : (backTo pos (starEach [e2] X.env)).any (·.1) = false := by rfl) :
    PI X (.Tuple elts kk tpos) (.Call (.Name "zip" p) [e, e2] [] pos) (iZipU X.K ta) := PI.or (pi_zip hg hm ha hs hpl) (pi_zipS hg hm ha hs hpl)
theorem pi_enumU {e : Expr} {ta : TA} {p pos tpos : Pos} {elts : List Expr} {kk : Nat} (hg : Gl X "enumerate") (hm : X.mg "enumerate" = none) (ha : PA X [e] ta) (hs : starEach [e] X.env = [(false, eval e X.env)] := by rfl) :
    PI X (.Tuple elts kk tpos) (.Call (.Name "enumerate" p) [e] [] pos) (iEnumU X.K ta) := PI.or (pi_enum hg hm ha hs) (pi_enumS hg hm ha hs)
end
end Px

namespace Px
open PySem PySem.Spec PyProof.Rows L2
/-! ### a written dict of ints by ints -/
def intOf : Value → Option Int
  | .int i _ => some i
  | _ => none
def ents (l : List DictEntry) : List (Option Int × Int × Option Int) := l.map fun e => (intOf e.key, e.hash, intOf e.val)
def idB (K : PySem.W.Frag) (a : Addr) (kvs : List (Int × Int)) : Bool := match K.lookup a with
  | some ⟨.type c, none, .dict es _, sl⟩ => decide (c = "dict") && (sl.isEmpty && (!(a == sysModules) && decide (ents es.toList = kvs.map fun p => (some p.1, hashInt p.1, some p.2))))
  | _ => false
structure IDict (K : PySem.W.Frag) (a : Addr) (kvs : List (Int × Int)) : Prop where
  at_ : ∃ es n, K.lookup a = some ⟨.type "dict", none, .dict es n, #[]⟩ ∧ ents es.toList = kvs.map fun p => (some p.1, hashInt p.1, some p.2)
  low : (a == sysModules) = false
theorem idB_ok {K : PySem.W.Frag} {a : Addr} {kvs : List (Int × Int)} (h : idB K a kvs = true) : IDict K a kvs := by
  unfold idB at h
  split at h
  · rename_i c es n sl e
    simp only [Bool.and_eq_true, decide_eq_true_eq, Bool.not_eq_true'] at h
    obtain ⟨h1, h2, h3, h4⟩ := h
    subst h1
    rw [Array.isEmpty_iff.mp h2] at e
    exact ⟨⟨es, n, e, h4⟩, h3⟩
  · cases h
theorem intOf_some {v : Value} {i : Int} (h : intOf v = some i) : ∃ t, v = .int i t := by
  cases v with
  | int j t =>
    cases (show some j = some i from h)
    exact ⟨t, rfl⟩
  | _ => cases h
/-- the int at k -/
def atK (kvs : List (Int × Int)) (k : Int) : Option Int := (kvs.find? fun p => decide (p.1 = k)).map (·.2)
theorem ents_find (k : Int) : ∀ (l : List DictEntry) (kvs : List (Int × Int)), ents l = kvs.map (fun p => (some p.1, hashInt p.1, some p.2)) →
    (∀ e ∈ l, ∃ j t, e.key = .int j t ∧ e.hash = hashInt j) ∧ RelO ((atK kvs k).map V.int) ((l.find? fun e => Value.isInt k e.key).map (·.val))
  | [], [], _ => ⟨fun e he => (nomatch he), trivial⟩
  | [], _ :: _, h => by cases h
  | _ :: _, [], h => by cases h
  | e :: l, p :: kvs, h => by
    have h1 : (intOf e.key, e.hash, intOf e.val) :: ents l = (some p.1, hashInt p.1, some p.2) :: kvs.map (fun p => (some p.1, hashInt p.1, some p.2)) := h
    injection h1 with h2 h3
    simp only [Prod.mk.injEq] at h2
    obtain ⟨ek, eh, ev⟩ := h2
    obtain ⟨t, et⟩ := intOf_some ek
    obtain ⟨u, eu⟩ := intOf_some ev
    obtain ⟨i1, i2⟩ := ents_find k l kvs h3
    refine ⟨fun e' he' => ?_, ?_⟩
    · rcases List.mem_cons.mp he' with rfl | m
      · exact ⟨p.1, t, et, eh⟩
      · exact i1 e' m
    · unfold atK
      by_cases q : p.1 = k
      · rw [List.find?_cons_of_pos (by simpa using q), List.find?_cons_of_pos (by rw [et]; simp [Value.isInt, q])]
        show RelV (V.int p.2) e.val
        rw [eu]
        exact ⟨u, rfl⟩
      · rw [List.find?_cons_of_neg (by simpa using q), List.find?_cons_of_neg (by rw [et]; simp [Value.isInt, q])]
        exact i2
section
variable {X : Cx} {a : Addr} {kvs : List (Int × Int)}
theorem IDict.map (D : IDict X.K a kvs) {h : Heap} (I : X.K.In h) (k : Int) : ∃ f, h.MapOf (intKind X.prog X.w) a f ∧ RelO ((atK kvs k).map V.int) (f k) := by
  obtain ⟨es, n, e, q⟩ := D.at_
  obtain ⟨h1, h2⟩ := ents_find k es.toList kvs q
  refine ⟨fun k => findBy Value.isInt es k, ⟨_, es, n, I _ _ e, ⟨rfl, rfl, rfl⟩, rfl, fun e he => ?_, fun _ => rfl⟩, ?_⟩
  · obtain ⟨j, t, e1, e2⟩ := h1 e (Array.mem_toList_iff.mpr he)
    exact ⟨j, by rw [e1]; exact intKind_is _ _ _ _, e2⟩
  · show RelO _ ((es.find? fun e => Value.isInt k e.key).map (·.val))
    rw [← Array.find?_toList]
    exact h2
/-- k in D, D[k] -/
def rInID (kvs : List (Int × Int)) (a : Addr) (f : Bool → Bool) : R2 := fun x y H Q => ∃ k : Int, x = .int k ∧ y = .ref a ∧ Q (.bl (f (atK kvs k).isSome)) H
def rIxID (kvs : List (Int × Int)) (a : Addr) : R2 := fun x y H Q => ∃ k v : Int, x = .ref a ∧ y = .int k ∧ atK kvs k = some v ∧ Q (.int v) H
theorem relO_some {o : Option Int} {r : Option Value} (h : RelO (o.map V.int) r) : r.isSome = o.isSome := by
  cases o <;> cases r <;> first | rfl | exact h.elim
theorem op_inID (D : IDict X.K a kvs) : OpR X (compareOp .In) (rInID kvs a fun b => b) := by
  intro pins s σ H x y v u Q I rx ry h
  obtain ⟨k, rfl, rfl, q⟩ := h
  obtain ⟨t, rfl⟩ := rx
  cases ry
  obtain ⟨f, hm, r⟩ := D.map I.kIn k
  refine wpAny_in_of (knd := intKind X.prog X.w) (intKind_is _ _ k t) D.low hm ?_
  rw [relO_some r]
  exact ⟨.bl (atK kvs k).isSome, H, I.tok _, rfl, q⟩
theorem op_notInID (D : IDict X.K a kvs) : OpR X (compareOp .NotIn) (rInID kvs a fun b => !b) := by
  intro pins s σ H x y v u Q I rx ry h
  obtain ⟨k, rfl, rfl, q⟩ := h
  obtain ⟨t, rfl⟩ := rx
  cases ry
  obtain ⟨f, hm, r⟩ := D.map I.kIn k
  refine wpAny_notIn_of (knd := intKind X.prog X.w) (intKind_is _ _ k t) D.low hm ?_
  rw [relO_some r]
  exact ⟨.bl (!(atK kvs k).isSome), H, I.tok _, rfl, q⟩
theorem op_ixID (D : IDict X.K a kvs) : OpR X getItem (rIxID kvs a) := by
  intro pins s σ H x y v u Q I rx ry h
  obtain ⟨k, z, rfl, rfl, e, q⟩ := h
  obtain ⟨t, rfl⟩ := ry
  cases rx
  obtain ⟨f, hm, r⟩ := D.map I.kIn k
  rw [e] at r
  cases hf : f k with
  | none => rw [hf] at r; exact r.elim
  | some w' =>
    rw [hf] at r
    exact wpAny_getItem_of (knd := intKind X.prog X.w) (intKind_is _ _ k t) hm hf ⟨.int z, H, I.tok _, r, q⟩
theorem idict_type (D : IDict X.K a kvs) {pins : List (Addr × Obj)} {σ : L2.St} {H : Hp} {s : Shared} (I : Inv X pins σ H s) : s.TypeIs (.ref a) "dict" := by
  obtain ⟨es, n, e, _⟩ := D.at_
  exact ⟨_, I.kIn _ _ e, rfl⟩
theorem pe_ixID {o i : Expr} {td ty : TE} {pos : Pos} (D : IDict X.K a kvs) (ho : PE X o td) (hi : PE X i ty) (hs : NoSl i) : PE X (.Subscript o i pos) (tOp (rIxID kvs a) td ty) := by
  refine ⟨fun pins s σ H Q I h => ?_⟩
  refine subD_of PySem.F.slot_dict_getitem.lookup hs (thn (ho.run pins s σ H _ I h) fun u s1 ⟨x, H1, I1, rx, q1⟩ => thn (hi.run pins s1 σ H1 _ I1 q1) fun iv s2 ⟨y, H2, I2, ry, q2⟩ => ?_)
  have q3 := q2
  obtain ⟨k, z, rfl, _⟩ := q3
  obtain rfl : u = Value.ref a := rx
  exact ⟨idict_type D I2, op_ixID D pins s2 σ H2 (.ref a) y (.ref a) iv Q I2 rfl ry q2⟩
/-! ### sizes of what is written -/
end
end Px

namespace Px
open PySem PySem.Spec PyProof.Rows L2 He
/-! ### the head's facts: defs at any path, facts as Bools -/
/-- a def: the way to it, name, qualified name, parameters, body, scope, defaults, keyword-only defaults -/
structure DefA where
  way : PySem.W.Frag → Addr
  nme : Str
  qul : Str
  par : Arguments
  bdy : List Stmt
  scp : Scope
  dfs : List Dv := []
  kws : List (Str × Dv) := []
def DefA.sees (K : PySem.W.Frag) (d : DefA) : FnW := match K.lookup (d.way K) with
  | some ⟨_, _, .func fd, _⟩ => some (fd.name, fd.qualname, fd.params, fd.body, fd.scope, fd.globals, fd.closure, fd.builtins)
  | _ => none
def DefA.due (d : DefA) : FnW := some (d.nme, d.qul, d.par, .stmts d.bdy, d.scp, mainGlobals, [], builtinsNs)
def DefA.dV (K : PySem.W.Frag) (d : DefA) : List V := d.dfs.map (Dv.v K)
def DefA.kV (K : PySem.W.Frag) (d : DefA) : List (Str × V) := d.kws.map fun q => (q.1, q.2.v K)
def DefA.good (K : PySem.W.Frag) (d : DefA) : Bool := PySem.W.keepIn K (.ref (d.way K)) && (match K.lookup (d.way K) with
  | some ⟨_, _, .func fd, _⟩ => PySem.W.codeIn K fd.code d.qul && dflB K fd.defaults (d.dV K) && kwdB K fd.kwdefaults (d.kV K)
  | _ => false)
theorem DefA.fun_ {K : PySem.W.Frag} {d : DefA} (e : d.sees K = d.due) (c : d.good K = true) : ∃ fd, FunD K d.nme d.qul d.par d.bdy d.scp (d.dV K) (d.kV K) (d.way K) fd := by
  unfold DefA.good at c
  unfold DefA.sees DefA.due at e
  obtain ⟨kp, c⟩ := ba c
  split at e
  · rename_i oc od fd osl q
    rw [q] at c
    obtain ⟨c, k3⟩ := ba c
    obtain ⟨k1, k2⟩ := ba c
    obtain ⟨n1, n2, n3, n4, n5, n6, n7, n8, n9, n10, n11, n12, n13, n14, n15⟩ := fd
    simp only [Option.some.injEq, Prod.mk.injEq] at e
    obtain ⟨h1, h2, h3, h4, h5, h6, h7, h8⟩ := e
    subst h1 h2 h3 h4 h5 h6 h7 h8
    exact ⟨_, ⟨oc, od, n8, n9, n10, n11, n12, n13, n14, osl, rfl, q, k1, dflB_ok k2, kwdB_ok k3⟩, kp⟩
  · cases e
abbrev Fact : Type := PySem.W.Frag → Bool
abbrev AlA : Type := Bool × List FnW
def obsA (fs : List Fact) (ds : List DefA) (K : PySem.W.Frag) : AlA := ((fs.all fun f => f K) && ds.all fun d => d.good K, ds.map fun d => d.sees K)
def valA (ds : List DefA) : AlA := (true, ds.map DefA.due)
def SaysA (fs : List Fact) (ds : List DefA) (K : PySem.W.Frag) : Prop := obsA fs ds K = valA ds
/-- what is looked at: what the module's names reach, and the statics -/
def obsAG (n : Nat) (fs : List Fact) (ds : List DefA) (g : Addr → Option Obj) : AlA := obsA fs ds (frG g (cStatics :: asD g n))
def hookA (n : Nat) (fs : List Fact) (ds : List DefA) : PySem.W.Hook where
  α := AlA
  obs := fun s => obsAG n fs ds s.heap.get?
  val := fun _ => valA ds
  says := fun _ h => ∃ K : PySem.W.Frag, K.In h ∧ SaysA fs ds K
  of := fun _ _ e => ⟨_, frG_in, e⟩
  keeps := fun _ _ _ ⟨K, hK, c⟩ k => ⟨K, PySem.W.Frag.In.keeps hK k, c⟩
theorem obsAG_eq {n : Nat} {fs : List Fact} {ds : List DefA} {g : Addr → Option Obj} {s : Shared} (h : ∀ a, g a = s.heap.get? a) : obsAG n fs ds g = (hookA n fs ds).obs s := by
  have e : g = s.heap.get? := funext h
  subst e
  rfl
section
variable {fs : List Fact} {ds : List DefA} {K : PySem.W.Frag}
theorem SaysA.fact (c : SaysA fs ds K) (i : Nat) {f : Fact} (h : fs[i]? = some f := by rfl) : f K = true := by
  have z : ((fs.all fun f => f K) && ds.all fun d => d.good K) = true := congrArg (fun z : AlA => z.1) c
  exact List.all_eq_true.mp (ba z).1 f (List.mem_of_getElem? h)
theorem SaysA.def_ (c : SaysA fs ds K) (i : Nat) {d : DefA} (h : ds[i]? = some d := by rfl) : ∃ fd, FunD K d.nme d.qul d.par d.bdy d.scp (d.dV K) (d.kV K) (d.way K) fd := by
  have z : ((fs.all fun f => f K) && ds.all fun d => d.good K) = true := congrArg (fun z : AlA => z.1) c
  have e : ds.map (fun d => d.sees K) = ds.map DefA.due := congrArg (fun z : AlA => z.2) c
  have e2 : (ds.map fun d => d.sees K)[i]? = (ds.map DefA.due)[i]? := by rw [e]
  rw [List.getElem?_map, List.getElem?_map, h] at e2
  exact DefA.fun_ (Option.some.inj e2) (List.all_eq_true.mp (ba z).2 d (List.mem_of_getElem? h))
end
/-! ### ways -/
def wGlo (x : Str) (K : PySem.W.Frag) : Addr := ga K x
def wMeth (C m : Str) (K : PySem.W.Frag) : Addr := ma K (ga K C) m
/-- a property's getter -/
def wGet (C f : Str) (K : PySem.W.Frag) : Addr := match PySem.W.recIn K (ma K (ga K C) f) "property" with
  | some (.ref g :: _) => g
  | _ => 0
/-! ### facts -/
def fFa (f : Fa) : Fact := fun K => f.ok K
def fProp (C f : Str) : Fact := fun K => eqO (PySem.W.findIn K (.ref (ga K C)) f) (some (some (.ref (ma K (ga K C) f)))) &&
  (eqO (PySem.W.specialIn K (.ref (ma K (ga K C) f)) "__get__") (some (some (.builtin "property.__get__"))) &&
    (decide (PySem.W.takesIn K (.ref (ma K (ga K C) f)) = some true) && (match PySem.W.recIn K (ma K (ga K C) f) "property" with
      | some (.ref _ :: _) => true
      | _ => false)))
theorem fProp_ok {C f : Str} {K : PySem.W.Frag} (h : fProp C f K = true) : PropOf K (ga K C) f (ma K (ga K C) f) (wGet C f K) := by
  obtain ⟨h1, h⟩ := ba h
  obtain ⟨h2, h⟩ := ba h
  obtain ⟨h3, h4⟩ := ba h
  refine ⟨eqO_ok h1, eqO_ok h2, of_decide_eq_true h3, ?_⟩
  unfold wGet
  split at h4
  · rename_i g l e
    exact ⟨l, by rw [e]⟩
  · cases h4
end Px
namespace Px
open PySem PySem.Spec PyProof.Rows L2 He
/-- attributes of the class C are read plainly; C.f is v -/
def fCRead (C : Str) : Fact := fun K => PySem.W.readsIn K (ga K C) (.type "type") && eqO (PySem.W.specialIn K (.ref (ga K C)) "__getattribute__") (some (some (.builtin "type.__getattribute__")))
theorem fCRead_ok {C : Str} {K : PySem.W.Frag} (h : fCRead C K = true) : ClX.CRead K (ga K C) (.type "type") := by
  obtain ⟨h1, h2⟩ := ba h
  exact ⟨h1, eqO_ok h2⟩
def fCVal (C f : Str) (v : Dv) : Fact := fun K => match PySem.W.findCls K (.ref (ga K C)) (.type "type") f with
  | some (.val u) => relB (v.v K) u
  | _ => false
theorem fCVal_ok {C f : Str} {v : Dv} {K : PySem.W.Frag} (h : fCVal C f v K = true) : ∃ u, ClX.CVal K (ga K C) (.type "type") f (v.v K) u := by
  unfold fCVal at h
  split at h
  · rename_i u e
    exact ⟨u, e, relB_ok h⟩
  · cases h
def fTup (x : Str) (vs : List Dv) : Fact := fun K => tupB K x vs
end Px

/-! own errors over ValueError whose __init__ says super().__init__("..") and keeps one argument -/
namespace PySem
namespace PxE
open PySem.W PySem.Calls PyProof.Rows PySem.HandSPX
/-- super().__init__("txt"); self.fld = prm -/
abbrev s1 (txt : Str) (p0 p1 p2 p3 p4 p5 : Pos) (k : Nat) : Stmt := .Expr (.Call (.Attribute (.Call (.Name "super" p0) [] [] p1) "__init__" p2) [.Constant (.str txt) k p3] [] p4) p5
abbrev s2 (fld prm : Str) (p6 p7 p8 p9 : Pos) : Stmt := .Assign [.Attribute (.Name "self" p6) fld p7] (.Name prm p8) p9
section
abbrev c1 (txt : Str) (p0 p1 p2 p3 p4 : Pos) (k : Nat) : Expr := .Call (.Attribute (.Call (.Name "super" p0) [] [] p1) "__init__" p2) [.Constant (.str txt) k p3] [] p4
variable {prog : Program} {w : World} {A : Around} {R : Result → Shared → Prop} {hp : Heap} {g : Array GenState} {d : Drawn} {t : Nat} {os : OsState} {K : Frag}
variable {C f cc cda e t0 : Addr} {v : Value} {mg mb : Str → Option Value} {name qual txt fld prm : Str} {params : Arguments} {scope : Scope} {dV kV doc pm ct oc ccl cl : Value} {an od cdd cld : Option Addr} {osl ccs csl : Array (Option Value)} {vs : Array Value} {file : Str} {tf : Tok} {ar : Arg}
  {p0 p1 p2 p3 p4 p5 p6 p7 p8 p9 : Pos} {k : Nat} {nm q : Str} {N : Addr} {bs bm : List Value} {sn : List Str} {sub : List Value} {ab : Bool} {col : Option Bool} {dd : Option Addr} {k0 k1 k2 k3 k5 : Option Value}
theorem init_super (X : K.In hp) (hg : hp.Ns mainGlobals mg) (hb : hp.Ns builtinsNs mb) (hmb : mb "super" = some (.type "super")) (hsuper : mg "super" = none) (lim : hp.NoLimit) (hroom : A.depth < recursionLimit)
    (lk : K.lookup f = some ⟨oc, od, .func (ksFn name qual params [s1 txt p0 p1 p2 p3 p4 p5 k, s2 fld prm p6 p7 p8 p9] scope dV kV doc pm an (.ref cda) ct cc), osl⟩) (hcd : codeIn K (.ref cda) qual = true)
    (hpar : (params.posonlyargs ++ params.args).head? = some ar) (har : ar.arg = "self")
    (hcode : K.lookup cda = some ⟨ccl, cdd, .fields vs, ccs⟩) (hvs : vs[2]? = some (.str file tf)) (hfile : ((prog.main.file : Str) == file) = true) (htop : (prog.main.scope.names.lookup ("super" : Str)).isSome = false)
    (hcell : K.lookup cc = some ⟨cl, cld, .cell (some (.ref C)), csl⟩)
    (hsc : ∀ x ∈ scope.names, x.2 ≠ .cell) (hs1 : scope.names.lookup ("super" : Str) = some .globalImplicit) (hs2 : scope.names.lookup ("__class__" : Str) = some .free) (hs3 : scope.names.lookup ("self" : Str) = some .local) (hs4 : scope.names.lookup prm = some .local)
    (hsk : scope.kind = .function) (hco : scope.isCoroutine = false) (hgen : scope.isGenerator = false) (hps : prm ≠ "self") (hpd : (prm == ("__debug__" : Str)) = false)
    (hC : K.lookup C = some (excClassObj nm q C N bs bm true sn sub ab col dd k0 k1 k2 k3 k5 "ValueError.__new__")) (hbm : refsVE bm = true) (sa : findIn K (.ref C) "__setattr__" = some (some (.builtin "object.__setattr__"))) (hno : findIn K (.ref C) fld = some none)
    (hop : nsIn K cStatics "thirdparty.any" = some none) (hsup : ks_superIn K C C "__init__" = some (some (.builtin "ValueError.__init__"))) (hB : subIn K (.ref C) (.type "ValueError") = some true) (hself : mroIn K C (.ref C) = some true)
    (he : hp.get? e = some ({ cls := .ref C, dict := none, data := .fields #[.ref t0, .none, .none, .none, .bool false, .none] } : Obj))
    (hKe : ∀ a o, K.lookup a = some o → a ≠ e)
    (hbind : BindsTo ⟨hp, g, d, t, os⟩ (ksFn name qual params [s1 txt p0 p1 p2 p3 p4 p5 k, s2 fld prm p6 p7 p8 p9] scope dV kV doc pm an (.ref cda) ct cc) ⟨[.ref e, v], []⟩ [("self", .ref e), (prm, v)])
    (pl : Addr → Sem Bool) (env : Addr → Env) (henv : env = fun L => callEnv (ksFn name qual params [s1 txt p0 p1 p2 p3 p4 p5 k, s2 fld prm p6 p7 p8 p9] scope dV kV doc pm an (.ref cda) ct cc) L f)
    (hi : ∀ L, interactive (env L) = false) (hw1 : ∀ L, swapsWith (c1 txt p0 p1 p2 p3 p4 k) none p5.line (env L) = pure false) (hw2 : ∀ L, swapsWith (.Name prm p8) (some (.Attribute (.Name "self" p6) fld p7)) p9.line (env L) = pure false)
    (hev : ∀ L, eval (c1 txt p0 p1 p2 p3 p4 k) (env L) = (do
      let ov ← attributeBase (.Call (.Name "super" p0) [] [] p1) "__init__" (env L) (eval (.Call (.Name "super" p0) [] [] p1) (env L))
      standAt p2.atName
      let (f, first) ← holding [ov] (getMethod ov "__init__" (pl L))
      callWith p4 f first (backTo p4 (starEach [.Constant (.str txt) k p3] (env L))) []))
    (hst : ∀ L, starEach [.Constant (.str txt) k p3] (env L) = [(false, eval (.Constant (.str txt) k p3) (env L))])
    (hq : ∀ h' t' dx t1, (∀ b o, b ≠ e → hp.get? b = some o → h'.get? b = some o) → hp.objs.size ≤ dx → dx ≠ e → h'.get? e = some ({ cls := .ref C, dict := some dx, data := .fields #[.ref t1, .none, .none, .none, .bool false, .none] } : Obj) →
      h'.Ns1 dx (fun y => if y = fld then some v else none) → R (.ok (.ret .none)) ⟨h', g, d, t', os⟩) :
    codeAny (model prog w) A (.call (.ref f) ⟨[.ref e, v], []⟩) R ⟨hp, g, d, t, os⟩ := by
  have hcl : clsIn K C = some { name := nm, bases := bs, mro := .ref C :: bm, ns := N, qualname := q, hasDict := true, slotNames := sn, subclasses := sub, abstract := ab, collection := col, hasDel := false } := by unfold clsIn; rw [hC] <;> rfl
  refine ks_codeAny_call_defAt (fd := ksFn name qual params [s1 txt p0 p1 p2 p3 p4 p5 k, s2 fld prm p6 p7 p8 p9] scope dV kV doc pm an (.ref cda) ct cc) (body := [s1 txt p0 p1 p2 p3 p4 p5 k, s2 fld prm p6 p7 p8 p9]) (binds := [("self", .ref e), (prm, v)])
    hroom (X _ _ lk) rfl lim (codeRec_of X hcd) rfl hbind hsc (fun y hy => ?_) (fun h1 hns hk1 => ?_) hco hgen hsk
  · rcases List.mem_cons.mp hy with rfl | hy
    · exact hs3
    · rw [List.mem_singleton.mp hy]; exact hs4
  have X1 : K.In h1 := X.keeps hk1
  have he1 := hk1 _ _ he
  have lself : ([(("self" : Str), Value.ref e), (prm, v)] : List (Str × Value)).reverse.lookup ("self" : Str) = some (Value.ref e) := by
    show List.lookup _ [(prm, v), (("self" : Str), Value.ref e)] = _
    have : (("self" : Str) == prm) = false := by simpa using (Ne.symm hps)
    simp [List.lookup, this]
  have lprm : ([(("self" : Str), Value.ref e), (prm, v)] : List (Str × Value)).reverse.lookup prm = some v := by
    show List.lookup _ [(prm, v), (("self" : Str), Value.ref e)] = _
    simp [List.lookup]
  have ee : ∀ L, callEnv (ksFn name qual params [s1 txt p0 p1 p2 p3 p4 p5 k, s2 fld prm p6 p7 p8 p9] scope dV kV doc pm an (.ref cda) ct cc) L f = env L := fun L => by rw [henv]
  show wpAt _ (A.deeper (callEnv _ hp.objs.size f)) (.func _ (callEnv _ hp.objs.size f)) (execs _ (callEnv _ hp.objs.size f)) _ _ _
  rw [ee hp.objs.size]
  have hk : (env hp.objs.size).scope = scope := by rw [henv]; rfl
  refine ks_wpAt_execs_cons (ks_wpAt_Expr_any (ks_wpAt_MethodCall (pl := pl hp.objs.size) ?_ (hev _)) (hi _) (hw1 _))
  rw [← ee hp.objs.size]
  refine ks_wpAt_super_base hs1 hs2 (by decide) rfl (X1 _ _ lk) rfl hpar rfl (X1 _ _ hcode) rfl hvs hfile htop ?_
  refine ks_loadName_global hsk hs1 (loadGlobal_builtin (hg.keeps hk1) hsuper (hb.keeps hk1) hmb ⟨rfl, ?_⟩)
  refine wpAny_loadName_free hsk hs2 rfl ⟨_, X1 _ _ hcell, rfl⟩ ?_
  rw [har]
  refine wpAny_loadName_local hsk hs3 hns lself ?_
  refine ks_wpAny_isType_cls (X1 _ _ hC) rfl ⟨rfl, ?_⟩
  refine ks_wpAny_call_super (X1 _ _ hC) rfl he1 rfl (fun c z => nomatch z) (looks_mroIn X1 hself) (fun h2 hso k2' => ?_)
  have X2 : K.In h2 := X1.keeps k2'
  have he2 := k2' _ _ he1
  have hns2 := hns.keeps k2'
  have I2 : InstAt h2 e ({ cls := .ref C, dict := none, data := .fields #[.ref t0, .none, .none, .none, .bool false, .none] } : Obj) C none := ⟨he2, rfl, rfl, trivial⟩
  have hsup' : alongIn K "__init__" (((Value.ref C :: bm).dropWhile (· != .ref C)).drop 1) = some (some (.builtin "ValueError.__init__")) := by
    unfold ks_superIn at hsup
    rw [hcl] at hsup
    exact hsup
  refine kxs_getMethod kxs_ValueError hso (looks_opaque X2 hop) (l₀ := Value.ref C :: bm) (fun A Q E s k q => wpAny_bind ((looks_clsIn X2 hcl) A _ E s k (wpAny_pure q))) rfl X2 hsup' (I2.type.andThen (looks_subIn X2 hB)) (ks_ne X2 I2 hcl) (by decide) ?_
  have k3' : ∀ b o, h2.get? b = some o → (h2.push (kxs_mw "ValueError.__init__" e)).get? b = some o := fun b o z => Heap.get?_push_of_some _ z
  have hu : (h2.push (kxs_mw "ValueError.__init__" e)).get? h2.objs.size = some (kxs_mw "ValueError.__init__" e) := Heap.get?_push_at rfl rfl
  generalize hh3 : h2.push (kxs_mw "ValueError.__init__" e) = h3 at k3' hu
  have X3 : K.In h3 := X2.keeps k3'
  have he3 := k3' _ _ he2
  have hns3 := hns2.keeps k3'
  have kk3 : ∀ b o, hp.get? b = some o → h3.get? b = some o := fun b o z => k3' b o (k2' b o (hk1 b o z))
  show wpAny _ _ (callWith p4 (.ref h2.objs.size) [] (backTo p4 (starEach [.Constant (.str txt) k p3] _)) []) _ _ _
  rw [ee hp.objs.size, hst]
  refine kxs_callWith (i := "ValueError.__init__") (x := e) rfl (evalArgs_plain (spliced_cons (Constant_str (pos := p3) (k := k) (spliced_nil ⟨hu, ?_⟩))))
  have FB := PySem.F.excBase_ValueError
  refine wpAny_call (codeAny_of_tree ?_)
  show wpAny _ (A.deeper (env hp.objs.size)).in1 (callAny (.ref h2.objs.size) ⟨[.str txt _], []⟩) _ _ _
  simp only [callAny]
  refine wpAny_bind (wpAny_load hu ?_)
  simp only [kxs_mw, show (Value.type "method-wrapper" == Value.type "method" || Value.type "method-wrapper" == Value.type "builtin_function_or_method" || Value.type "method-wrapper" == Value.type "method-wrapper") = true by decide, if_true]
  refine KFB.if_so (by decide) ?_
  refine wpAny_bind (check_bound_init FB.toExcCallFacts (X3 _ _ hC) he3 rfl ?_)
  refine wpAny_bind (wpAny_pure (wpAny_pure ?_))
  refine ⟨plainId_quiet FB.init.plain _, codeAny_builtin FB.initEntry ?_⟩
  refine exc_init_tree (cls := .ref C) (t0 := t0) (dv := none) (c2 := .none) (c3 := .none) (b4 := .bool false) he3 (by show 1 ≤ sizeLine; decide) (fun h4 k4' he4 _ => ?_)
  -- the second statement
  have eL : hp.objs.size ≠ e := Nat.ne_of_gt (Heap.lt_size he)
  have kk4 : ∀ b o, b ≠ e → hp.get? b = some o → h4.get? b = some o := fun b o hb z => k4' b o hb (kk3 b o z)
  have X4 : K.In h4 := fun a o z => kk4 a o (hKe a o z) (X a o z)
  have hns4 : h4.Ns hp.objs.size (fun x => ([(("self" : Str), Value.ref e), (prm, v)] : List (Str × Value)).reverse.lookup x) := hns3.at fun o z => k4' _ o eL z
  show wpAt _ _ _ (execs [s2 fld prm p6 p7 p8 p9] (env hp.objs.size)) _ _ _
  refine wpAt_of_wpAny (wpAny_execs_cons (plainObj_wpAny_Assign_Attribute ?_ (hw2 _)))
  rw [← ee hp.objs.size]
  refine wpAny_Name (wpAny_loadName_local hsk hs4 hns4 lprm ?_) hpd
  refine wpAny_Name (wpAny_loadName_local hsk hs3 hns4 lself ?_) (by decide)
  have he4' : h4.get? e = some ({ cls := .ref C, dict := none, data := .fields #[.ref h3.objs.size, .none, .none, .none, .bool false, .none] } : Obj) := he4
  refine set_plain X4 (ox := { cls := .ref C, dict := none, data := .fields #[.ref h3.objs.size, .none, .none, .none, .bool false, .none] }) (od := none) ⟨he4', rfl, rfl, trivial⟩ sa ?_
  have szle : hp.objs.size ≤ h4.objs.size := Nat.le_of_lt hns4.lt
  refine exc_osa X4 he4' hcl (show refsVE (.ref C :: bm) = true from hbm) rfl hno (fun h5 tk5 dx k5' dn dne hx5 hn5 => ?_)
  refine wpAny_execs_nil ?_
  exact hq h5 tk5 dx h3.objs.size (fun b o hb z => k5' b o hb (kk4 b o hb z)) (Nat.le_trans szle dn) dne hx5 hn5
end
/-- what a call of the class's __init__ does: the object gets its dict with one field -/
def InitOk (prog : Program) (w : World) (K : Frag) (mg : Str → Option Value) (C f : Addr) (fld : Str) : Prop :=
  ∀ (A : Around) (R : Result → Shared → Prop) (hp : Heap) (g : Array GenState) (d : Drawn) (t : Nat) (os : OsState) (e t0 : Addr) (v : Value) (mb : Str → Option Value), K.In hp → hp.Ns mainGlobals mg → hp.Ns builtinsNs mb → mb "super" = some (.type "super") → hp.NoLimit →
    A.depth < recursionLimit → (∀ a o, K.lookup a = some o → a ≠ e) → hp.get? e = some ({ cls := .ref C, dict := none, data := .fields #[.ref t0, .none, .none, .none, .bool false, .none] } : Obj) →
    (∀ h' t' dx t1, (∀ b o, b ≠ e → hp.get? b = some o → h'.get? b = some o) → hp.objs.size ≤ dx → dx ≠ e → h'.get? e = some ({ cls := .ref C, dict := some dx, data := .fields #[.ref t1, .none, .none, .none, .bool false, .none] } : Obj) →
      h'.Ns1 dx (fun y => if y = fld then some v else none) → R (.ok (.ret .none)) ⟨h', g, d, t', os⟩) →
    codeAny (model prog w) A (.call (.ref f) ⟨[.ref e, v], []⟩) R ⟨hp, g, d, t, os⟩
end PxE
end PySem
namespace L2
open PySem PySem.Spec PyProof.Rows
/-- C(e), C's own __init__ keeping its one argument as the field fld -/
def tMkE (C : Addr) (fld : Str) (ta : TA) : St → Hp → XK → Prop := fun σ H Q => ta σ H fun vs H1 => ∃ v, vs = [v] ∧ ∀ d, H1 d = none → Q (.ref C) (some d) (upd H1 d (.xd [(fld, v)]))
theorem pmk_err {X : Cx} {x fld : Str} {C fI : Addr} {k : Nat} {e : Expr} {ta : TA} {p pos : Pos} (T : OexC X.K C) (iC : PySem.W.findIn X.K (.ref C) "__init__" = some (some (.ref fI))) (tI : PySem.W.typeIn X.K (.ref fI) = some (.type "function"))
    (IO : PySem.PxE.InitOk X.prog X.w X.K X.mg C fI fld) (hr : Room (k + 1) X.A) (hg : Gl X x) (hm : X.mg x = some (.ref C)) (ha : PA X [e] ta)
    (hdb : (x == ("__debug__" : Str)) = false := by decide) (he : starEach [e] X.env = (false, eval e X.env) :: starEach [] X.env := by rfl) (hpl : (backTo pos (starEach [] X.env)).any (·.1) = false := by rfl) :
    PMk X (.Call (.Name x p) [e] [] pos) (tMkE C fld ta) := by
  intro pins s σ H Q I h
  obtain ⟨nm, q, N, bs, bm, sn, sub, ab, col, dd, k0, k1, k2, k3, k5, hC, hbm⟩ := T.cls
  refine wpAny_Call_Name_kw (ld_glob I hg hm ?_ hdb)
  refine PySem.W.callWith_K (h₀ := X.base) I.ok.mod.kin T.kC (thn (ha.run pos pins s σ H _ I h) fun us s1 ⟨vs, H1, I1, r1, v, ev, q1⟩ => ⟨I1.kIn, ?_⟩) he hpl
  subst ev
  obtain ⟨u, rfl, ru⟩ := vals1 r1
  show wpAny _ _ (call (.ref C) [u]) _ _ _
  obtain ⟨hp, g, dr, tk, os⟩ := s1
  have hsz : hp.objs.size ≤ hp.objs.size + 1 := Nat.le_succ _
  have hn : H1 (hp.objs.size + 1) = none := I1.hok.fresh hsz
  have kk : ∀ b o, hp.get? b = some o → ((hp.push (PySem.W.kdv_tup [u])).push (PySem.HandSPX.excO C hp.objs.size)).get? b = some o := fun b o e => Heap.get?_push_of_some _ (Heap.get?_push_of_some _ e)
  have hget : ((hp.push (PySem.W.kdv_tup [u])).push (PySem.HandSPX.excO C hp.objs.size)).get? (hp.objs.size + 1) = some (PySem.HandSPX.excO C hp.objs.size) := by heap_get
  have I2 : Inv X pins σ (upd H1 (hp.objs.size + 1) (exo (hp.objs.size + 1) C none)) ⟨(hp.push (PySem.W.kdv_tup [u])).push (PySem.HandSPX.excO C hp.objs.size), g, dr, tk, os⟩ :=
    I1.laid (t' := tk) (a := hp.objs.size + 1) (o := exo (hp.objs.size + 1) C none) (h' := (hp.push (PySem.W.kdv_tup [u])).push (PySem.HandSPX.excO C hp.objs.size)) kk hsz (exo_ok hget)
  have e0 := I2.env0
  obtain ⟨mb, hmb, hmv⟩ := e0.mod.blt
  have hus : ([u] : List Value).length ≤ sizeLine := by show 1 ≤ sizeLine; decide
  have hea : upd H1 (hp.objs.size + 1) (exo (hp.objs.size + 1) C none) (hp.objs.size + 1) = some (exo (hp.objs.size + 1) C none) := upd_same
  refine wpAny_call (PySem.HandSPX.call_own F.excBase_ValueError (fun Y => PySem.HandSPX.refsVE_contains Y bm hbm) (I1.kIn _ _ hC) (PySem.W.looks_findIn I1.kIn iC) (fun self => PySem.W.bind_fn I1.kIn self tI) hus ?_)
  generalize hpp : (hp.push (PySem.W.kdv_tup [u])).push (PySem.HandSPX.excO C hp.objs.size) = hp2 at *
  generalize hea2 : hp.objs.size + 1 = a at *
  have kb : ∀ b o, X.base.get? b = some o → hp2.get? b = some o := fun b o z => (e0.bs b o z).1
  have bs2 : mb "super" = some (.type "super") := (hmv _ (by decide +kernel)).trans (by first | boot_by_name | rfl | kernel_rfl)
  refine IO _ _ hp2 g dr _ os a hp.objs.size u mb I2.kIn (e0.mod.glob.keeps kb) (hmb.keeps kb) bs2 (e0.mod.nolimit.keeps kb) (hr.make C [u] []).depth (fun b o z w => ?_) hget (fun h' t' dx t1 k' dn dne hx hn5 => ?_)
  · have y := (e0.bs b o (e0.mod.kin b o z)).2
    rw [w, hea] at y
    cases y
  generalize hH : upd H1 a (exo a C none) = H at *
  have hnd : H dx = none := I2.hok.fresh dn
  have hd1 : H1 dx = none := by
    rw [← hH, upd_ne dne] at hnd
    exact hnd
  have nd : ∀ {b : Addr} {o : Obj}, hp2.get? b = some o → b ≠ dx := fun {b o} q => Nat.ne_of_lt (Nat.lt_of_lt_of_le (Heap.lt_size q) dn)
  have na : ∀ {b : Addr}, H b = none → b ≠ a := fun {b} n z => by
    rw [z, hea] at n
    cases n
  have Un1 : Un (frs X.stack) [] H (upd (upd H dx (exd dx [(fld, v)])) a (exo a C (some dx))) hp2 h' := {
    keep := fun b o q n _ _ => k' b o (na n) q
    slot := fun b o q n _ _ => ⟨o.slots, k' b o (na n) q⟩
    free := fun b o q n _ => by rw [upd_ne (na n), upd_ne (nd q)]; exact n
    there := fun b o q _ => by
      by_cases hb : b = a
      · exact ⟨_, by rw [hb]; exact hx⟩
      · exact ⟨o, k' b o hb q⟩
    tups := fun b xs q => by rw [upd_ne (at_ne hea q exo_tup), upd_ne (ne_of_none q hnd)]; exact q
    frzs := fun b o v q => by rw [upd_ne (at_ne hea q exo_frz), upd_ne (ne_of_none q hnd)]; exact q
    tbls := fun b ps q => ⟨#[], by rw [upd_ne (at_ne hea q exo_tbl), upd_ne (ne_of_none q hnd), q]; simp⟩ }
  have hok2 : HOk X.prog X.w (upd (upd H dx (exd dx [(fld, v)])) a (exo a C (some dx))) h' := fun b o q => by
    by_cases hb : b = a
    · subst hb
      rw [upd_same] at q
      cases q
      exact exo_ok hx
    · rw [upd_ne hb] at q
      by_cases hd : b = dx
      · subst hd
        rw [upd_same] at q
        cases q
        exact exd_ok hn5 (relO_put (fs := []) ru fun g => True.intro)
      · rw [upd_ne hd] at q
        exact (I2.hok b o q).stay (fun c v hc z => k' c v (by
            rcases hc with hc | hc
            · rw [hc]
              exact hb
            · exact at_ne hea hc exo_own) z)
          (fun c hc => by rw [upd_ne (at_ne hea hc exo_own), upd_ne (ne_of_none hc hnd)]; exact hc) (fun c xs hc => by rw [upd_ne (at_ne hea hc exo_tup), upd_ne (ne_of_none hc hnd)]; exact hc)
  have eq : upd (del (upd (upd H dx (exd dx [(fld, v)])) a (exo a C (some dx))) a) dx (.xd [(fld, v)]) = upd H1 dx (.xd [(fld, v)]) := by
    funext b
    by_cases hd : b = dx
    · rw [hd, upd_same, upd_same]
    · rw [upd_ne hd, upd_ne hd]
      by_cases hb : b = a
      · rw [hb, del_same, hn]
      · rw [del_ne hb, upd_ne hb, upd_ne hd, ← hH, upd_ne hb]
  refine ⟨rfl, mk_end (H2 := upd (upd H dx (exd dx [(fld, v)])) a (exo a C (some dx))) (fs := [(fld, v)]) (d := dx) (raises_own T.exC T.tyC) I1 hsz kk (by rw [hH]; exact Un1) hok2 rfl I2.bare upd_same (by rw [upd_ne dne, upd_same]) hd1 (by rw [eq]; exact q1 dx hd1)⟩
end L2

namespace Px
open PySem PySem.Spec PyProof.Rows L2 He
/-! ### the head's facts of own error classes whose __init__ says super() -/
structure ErrD where
  cls : Str
  fld : Str
  qul : Str
  par : Arguments
  bdy : List Stmt
  scp : Scope
  fil : Str
def ErrD.C (d : ErrD) (K : PySem.W.Frag) : Addr := ga K d.cls
def ErrD.f (d : ErrD) (K : PySem.W.Frag) : Addr := ma K (ga K d.cls) "__init__"
def ErrD.sees (K : PySem.W.Frag) (d : ErrD) : FnW := match K.lookup (d.f K) with
  | some ⟨_, _, .func fd, _⟩ => some (fd.name, fd.qualname, fd.params, fd.body, fd.scope, fd.globals, fd.closure.map (fun q => (q.1, 0)), fd.builtins)
  | _ => none
def ErrD.due (d : ErrD) : FnW := some ("__init__", d.qul, d.par, .stmts d.bdy, d.scp, mainGlobals, [("__class__", 0)], builtinsNs)
def ecB (K : PySem.W.Frag) (C : Addr) : Bool := match K.lookup C with
  | some ⟨.type "type", _, .cls cd, sl⟩ => (match cd.mro, sl.toList with
    | .ref C' :: bm, [_, _, _, _, some (.builtin n), _] => C' == C && (n == "ValueError.__new__" && (!cd.hasDel && (cd.hasDict && PySem.HandSPX.refsVE bm)))
    | _, _ => false)
  | _ => false
theorem ecB_ok {K : PySem.W.Frag} {C : Addr} (q : ecB K C = true) : ∃ nm q N bs bm sn sub ab col dd k0 k1 k2 k3 k5, K.lookup C = some (excClassObj nm q C N bs bm true sn sub ab col dd k0 k1 k2 k3 k5 "ValueError.__new__") ∧ PySem.HandSPX.refsVE bm = true := by
  unfold ecB at q
  split at q
  · rename_i dd cd sl ho
    split at q
    · rename_i C' bm k0 k1 k2 k3 n k5 hm hs
      simp only [Bool.and_eq_true, beq_iff_eq, Bool.not_eq_true'] at q
      obtain ⟨rfl, rfl, hdel, hdict, hb⟩ := q
      obtain ⟨nm, bs, mro, ns, qn, hd, sn, sub, ab, col, del⟩ := cd
      dsimp only at hm hdel hdict
      subst hm hdel hdict
      have hsl : sl = #[k0, k1, k2, k3, some (.builtin "ValueError.__new__"), k5] := by
        obtain ⟨l⟩ := sl
        simp only at hs
        rw [hs]
      subst hsl
      exact ⟨nm, qn, ns, bs, bm, sn, sub, ab, col, dd, k0, k1, k2, k3, k5, ho, hb⟩
    · cases q
  · cases q
def codeB (K : PySem.W.Frag) (fil : Str) (v : Value) : Bool := match v with
  | .ref cda => (match K.lookup cda with
    | some ⟨_, _, .fields vs, _⟩ => (match (vs[2]? : Option Value) with
      | some (.str f _) => decide (f = fil)
      | _ => false)
    | _ => false)
  | _ => false
theorem codeB_ok {K : PySem.W.Frag} {fil : Str} {v : Value} (h : codeB K fil v = true) : ∃ cda ccl cdd vs ccs tf, v = .ref cda ∧ K.lookup cda = some ⟨ccl, cdd, .fields vs, ccs⟩ ∧ vs[2]? = some (.str fil tf) := by
  unfold codeB at h
  split at h
  · rename_i cda
    split at h
    · rename_i ccl cdd vs ccs q
      split at h
      · rename_i f tf r
        have e := of_decide_eq_true h
        subst e
        exact ⟨cda, ccl, cdd, vs, ccs, tf, rfl, q, r⟩
      · cases h
    · cases h
  · cases h
def cellB (K : PySem.W.Frag) (C : Addr) (l : List (Str × Addr)) : Bool := match l with
  | [q] => (match K.lookup q.2 with
    | some ⟨_, _, .cell (some (.ref c)), _⟩ => c == C
    | _ => false)
  | _ => false
theorem cellB_ok {K : PySem.W.Frag} {C : Addr} {l : List (Str × Addr)} {x : Str} (h : cellB K C l = true) (e : l.map (fun q => (q.1, 0)) = [(x, (0 : Addr))]) : ∃ cc cl cld csl, l = [(x, cc)] ∧ K.lookup cc = some ⟨cl, cld, .cell (some (.ref C)), csl⟩ := by
  unfold cellB at h
  split at h
  · rename_i q
    obtain ⟨y, cc⟩ := q
    have ey : y = x := by simpa using e
    subst ey
    split at h
    · rename_i cl cld c csl r
      have ec := beq_iff_eq.mp h
      subst ec
      exact ⟨cc, cl, cld, csl, rfl, r⟩
    · cases h
  · cases h
def ErrD.good (K : PySem.W.Frag) (d : ErrD) : Bool := (Fa.glo d.cls).ok K && (ecB K (d.C K) && (eqO (PySem.W.findIn K (.ref (d.C K)) "__setattr__") (some (some (.builtin "object.__setattr__"))) &&
  (decide (PySem.W.subIn K (.ref (d.C K)) (.type "BaseException") = some true) && (decide (PySem.W.typeIn K (.ref (d.C K)) = some (.type "type")) && (PySem.W.keepIn K (.ref (d.C K)) && (xfB K (d.C K) &&
  (eqO (PySem.W.findIn K (.ref (d.C K)) d.fld) (some none) && (eqO (PySem.W.findIn K (.ref (d.C K)) "__init__") (some (some (.ref (d.f K)))) && (decide (PySem.W.typeIn K (.ref (d.f K)) = some (.type "function")) &&
  (decide (PySem.W.exmOne K (.ref (d.C K)) (.ref (d.C K)) = some true) && (eqO (PySem.W.nsIn K cStatics "thirdparty.any") (some none) && (decide (PySem.W.ks_superIn K (d.C K) (d.C K) "__init__" = some (some (.builtin "ValueError.__init__"))) &&
  (decide (PySem.W.subIn K (.ref (d.C K)) (.type "ValueError") = some true) && (decide (PySem.W.mroIn K (d.C K) (.ref (d.C K)) = some true) && (match K.lookup (d.f K) with
    | some ⟨_, _, .func fd, _⟩ => PySem.W.codeIn K fd.code d.qul && (codeB K d.fil fd.code && (cellB K (d.C K) fd.closure && (decide (fd.defaults = .none) && decide (fd.kwdefaults = .none))))
    | _ => false)))))))))))))))
/-- what is known of such a class -/
structure ErrF (K : PySem.W.Frag) (d : ErrD) (C f : Addr) : Prop where
  glo : (Fa.glo d.cls).ok K = true
  Ce : C = ga K d.cls
  oex : OexC K C
  xf : XfC K C
  noF : PySem.W.findIn K (.ref C) d.fld = some none
  iC : PySem.W.findIn K (.ref C) "__init__" = some (some (.ref f))
  tI : PySem.W.typeIn K (.ref f) = some (.type "function")
  te : PySem.W.exmOne K (.ref C) (.ref C) = some true
  hop : PySem.W.nsIn K cStatics "thirdparty.any" = some none
  hsup : PySem.W.ks_superIn K C C "__init__" = some (some (.builtin "ValueError.__init__"))
  hB : PySem.W.subIn K (.ref C) (.type "ValueError") = some true
  hself : PySem.W.mroIn K C (.ref C) = some true
  fn : ∃ oc od doc pm an cda ct cc osl ccl cdd ccs vs tf cl cld csl, K.lookup f = some ⟨oc, od, .func (PySem.W.ksFn "__init__" d.qul d.par d.bdy d.scp .none .none doc pm an (.ref cda) ct cc), osl⟩ ∧ PySem.W.codeIn K (.ref cda) d.qul = true ∧
    K.lookup cda = some ⟨ccl, cdd, .fields vs, ccs⟩ ∧ vs[2]? = some (.str d.fil tf) ∧ K.lookup cc = some ⟨cl, cld, .cell (some (.ref C)), csl⟩
theorem ErrD.ok {K : PySem.W.Frag} {d : ErrD} (e : d.sees K = d.due) (c : d.good K = true) : ErrF K d (d.C K) (d.f K) := by
  unfold ErrD.good at c
  obtain ⟨c0, c⟩ := ba c
  obtain ⟨c1, c⟩ := ba c
  obtain ⟨c2, c⟩ := ba c
  obtain ⟨c3, c⟩ := ba c
  obtain ⟨c4, c⟩ := ba c
  obtain ⟨c5, c⟩ := ba c
  obtain ⟨c6, c⟩ := ba c
  obtain ⟨c7, c⟩ := ba c
  obtain ⟨c8, c⟩ := ba c
  obtain ⟨c9, c⟩ := ba c
  obtain ⟨c10, c⟩ := ba c
  obtain ⟨c11, c⟩ := ba c
  obtain ⟨c12, c⟩ := ba c
  obtain ⟨c13, c⟩ := ba c
  obtain ⟨c14, c15⟩ := ba c
  refine ⟨c0, rfl, ⟨ecB_ok c1, eqO_ok c2, of_decide_eq_true c3, of_decide_eq_true c4, c5⟩, xfB_ok c6, eqO_ok c7, eqO_ok c8, of_decide_eq_true c9, of_decide_eq_true c10, eqO_ok c11, of_decide_eq_true c12, of_decide_eq_true c13, of_decide_eq_true c14, ?_⟩
  unfold ErrD.sees ErrD.due at e
  split at e
  · rename_i oc od fd osl q
    rw [q] at c15
    obtain ⟨k1, k⟩ := ba c15
    obtain ⟨k2, k⟩ := ba k
    obtain ⟨k3, k⟩ := ba k
    obtain ⟨k4, k5⟩ := ba k
    replace k4 := of_decide_eq_true k4
    replace k5 := of_decide_eq_true k5
    obtain ⟨n1, n2, n3, n4, n5, n6, n7, n8, n9, n10, n11, n12, n13, n14, n15⟩ := fd
    simp only [Option.some.injEq, Prod.mk.injEq] at e
    obtain ⟨h1, h2, h3, h4, h5, h6, h7, h8⟩ := e
    obtain ⟨cda, ccl, cdd, vs, ccs, tf, rfl, a1, a2⟩ := codeB_ok k2
    obtain ⟨cc, cl, cld, csl, b1, b2⟩ := cellB_ok k3 h7
    dsimp only at b1 k4 k5
    subst h1 h2 h3 h4 h5 h6 h8 b1 k4 k5
    exact ⟨oc, od, n10, n11, n12, cda, n14, cc, osl, ccl, cdd, ccs, vs, tf, cl, cld, csl, q, k1, a1, a2, b2⟩
  · cases e
/-! ### the hook -/
/-- the closures' cells too -/
def asX (g : Addr → Option Obj) (n : Nat) : List Addr := asD g n ++ (asD g n).flatMap fun a => match g a with
  | some ⟨_, _, .func fd, _⟩ => fd.closure.map (·.2)
  | _ => []
def obsX (fs : List Fact) (ds : List DefA) (es : List ErrD) (K : PySem.W.Frag) : AlA := ((fs.all fun f => f K) && ((ds.all fun d => d.good K) && es.all fun d => d.good K), ds.map (fun d => d.sees K) ++ es.map fun d => d.sees K)
def valX (ds : List DefA) (es : List ErrD) : AlA := (true, ds.map DefA.due ++ es.map ErrD.due)
def SaysX (fs : List Fact) (ds : List DefA) (es : List ErrD) (K : PySem.W.Frag) : Prop := obsX fs ds es K = valX ds es
def obsXG (n : Nat) (fs : List Fact) (ds : List DefA) (es : List ErrD) (g : Addr → Option Obj) : AlA := obsX fs ds es (frG g (cStatics :: asX g n))
def hookX (n : Nat) (fs : List Fact) (ds : List DefA) (es : List ErrD) : PySem.W.Hook where
  α := AlA
  obs := fun s => obsXG n fs ds es s.heap.get?
  val := fun _ => valX ds es
  says := fun _ h => ∃ K : PySem.W.Frag, K.In h ∧ SaysX fs ds es K
  of := fun _ _ e => ⟨_, frG_in, e⟩
  keeps := fun _ _ _ ⟨K, hK, c⟩ k => ⟨K, PySem.W.Frag.In.keeps hK k, c⟩
theorem obsXG_eq {n : Nat} {fs : List Fact} {ds : List DefA} {es : List ErrD} {g : Addr → Option Obj} {s : Shared} (h : ∀ a, g a = s.heap.get? a) : obsXG n fs ds es g = (hookX n fs ds es).obs s := by
  have e : g = s.heap.get? := funext h
  subst e
  rfl
section
variable {fs : List Fact} {ds : List DefA} {es : List ErrD} {K : PySem.W.Frag}
theorem SaysX.fact (c : SaysX fs ds es K) (i : Nat) {f : Fact} (h : fs[i]? = some f := by rfl) : f K = true := by
  have z : ((fs.all fun f => f K) && ((ds.all fun d => d.good K) && es.all fun d => d.good K)) = true := congrArg (fun z : AlA => z.1) c
  exact List.all_eq_true.mp (ba z).1 f (List.mem_of_getElem? h)
theorem SaysX.two (c : SaysX fs ds es K) : ds.map (fun d => d.sees K) = ds.map DefA.due ∧ es.map (fun d => d.sees K) = es.map ErrD.due := by
  have e : ds.map (fun d => d.sees K) ++ es.map (fun d => d.sees K) = ds.map DefA.due ++ es.map ErrD.due := congrArg (fun z : AlA => z.2) c
  exact List.append_inj e (by rw [List.length_map, List.length_map])
theorem SaysX.def_ (c : SaysX fs ds es K) (i : Nat) {d : DefA} (h : ds[i]? = some d := by rfl) : ∃ fd, FunD K d.nme d.qul d.par d.bdy d.scp (d.dV K) (d.kV K) (d.way K) fd := by
  have z : ((fs.all fun f => f K) && ((ds.all fun d => d.good K) && es.all fun d => d.good K)) = true := congrArg (fun z : AlA => z.1) c
  have e := c.two.1
  have e2 : (ds.map fun d => d.sees K)[i]? = (ds.map DefA.due)[i]? := by rw [e]
  rw [List.getElem?_map, List.getElem?_map, h] at e2
  exact DefA.fun_ (Option.some.inj e2) (List.all_eq_true.mp (ba (ba z).2).1 d (List.mem_of_getElem? h))
theorem SaysX.err (c : SaysX fs ds es K) (i : Nat) {d : ErrD} (h : es[i]? = some d := by rfl) : ErrF K d (d.C K) (d.f K) := by
  have z : ((fs.all fun f => f K) && ((ds.all fun d => d.good K) && es.all fun d => d.good K)) = true := congrArg (fun z : AlA => z.1) c
  have e := c.two.2
  have e2 : (es.map fun d => d.sees K)[i]? = (es.map ErrD.due)[i]? := by rw [e]
  rw [List.getElem?_map, List.getElem?_map, h] at e2
  exact ErrD.ok (Option.some.inj e2) (List.all_eq_true.mp (ba (ba z).2).2 d (List.mem_of_getElem? h))
end
end Px

/-! o != p by an own __eq__; C.m(k = v) of a classmethod; cls(.., k = v) -/
namespace Px
open PySem PySem.Spec PyProof.Rows L2 ClX
section
variable {prog : Program} {w : World} {A A₀ : Around} {E : Value → Shared → Prop} {s : Shared} {K : PySem.W.Frag} {x C L f : Addr} {h₀ : Heap} {m : Str → Option Value} {ox : Obj} {od : Option Obj} {b tb : Value}
theorem ifBound_B {M : Model} {name : Str} {id T : String} {args : List Value} {Q : Option Value → Shared → Prop} (X : K.In s.heap) (I : PySem.W.InstAt s.heap x ox C od) (hs : PySem.W.findIn K (.ref C) name = some (some (.builtin id))) (S : Slot T name id)
    (h : wpAny M A (call (.builtin id) (.ref x :: args)) (fun v => Q (some v)) E s) : wpAny M A (callSpecialIfBound? (.ref x) name args) Q E s := by
  simp only [callSpecialIfBound?, bindSpecialIfBound?]
  refine wpAny_holding (wpAny_bind (wpAny_bind (wpAny_bind (I.type.here ((PySem.W.looks_findIn X hs).here ?_)))))
  simp only [S.bind]
  refine wpAny_bind (wpAny_askSetting (wpAny_ite ?_))
  have fin : wpAny M A (call (.builtin id) ([.ref x] ++ args) >>= fun v => pure (some v)) Q E s := wpAny_bind (wpAny_mono h (fun v s' h' => wpAny_pure h') fun _ _ h' => h')
  split
  · exact wpAny_bind (wpAny_pure (wpAny_pure (by exact fin)))
  · exact wpAny_tryCatch (wpAny_bind (wpAny_pure (wpAny_pure (by exact fin))))
theorem objNe_own {Q : Fin → Shared → Prop} (X : K.In s.heap) (I : PySem.W.InstAt s.heap x ox C od) (hs : PySem.W.findIn K (.ref C) "__eq__" = some (some (.ref f))) (hf : PySem.W.isFn K (.ref f) = true) (hu : A.units < cLine)
    (h : wpAny (model prog w) A (call (.ref f) [.ref x, b]) (fun v s' => ∃ r, v = .bool r ∧ Q (.done (.ret (.bool (!r)))) s') E s) : wpAny (model prog w) A (Builtin.«object.__ne__» ⟨[.ref x, b], []⟩) Q E s := by
  unfold Builtin.«object.__ne__»
  repeat (first
    | with_reducible refine wpAny_cRoomFor hu ?_
    | (refine wpAny_bind (m := callSpecialIfBound? (.ref x) (Str.ofString "__eq__") [b])
        (PySem.W.ifBound_K X I hs hf (wpAny_mono h (fun r s' hr => by
          obtain ⟨b, rfl, hq⟩ := hr
          repeat (first | exact hq | exact wpAny_pure hq | exact wpAny_truthy_bool hq | (refine wpAny_bind (m := truthy (.bool _)) (wpAny_truthy_bool ?_)) | wp_step)) fun _ _ e => e)))
    | wp_step)
theorem rc_neOwn {Q : Value → Shared → Prop} (hu : A.units + 1 < cLine) (Fm : Fr h₀ L s.heap m) (X₀ : K.In h₀) (I : PySem.W.InstAt s.heap x ox C od) (hb : PySem.W.Looks (model prog w) s.heap (typeOf b) (.ref C))
    (hne : PySem.W.findIn K (.ref C) "__ne__" = some (some (.builtin "object.__ne__"))) (hm : PySem.W.mroIn K C (.type "object") = some true)
    (hs : PySem.W.findIn K (.ref C) "__eq__" = some (some (.ref f))) (hf : PySem.W.isFn K (.ref f) = true)
    (h : wpAny (model prog w) A.in1 (call (.ref f) [.ref x, b]) (fun v s' => ∃ r, v = .bool r ∧ Q (.bool (!r)) s') E s) : wpAny (model prog w) A (richCompare .NotEq (.ref x) b) Q E s := by
  have X := X₀.keeps Fm.keep
  have sub : PySem.W.Looks (model prog w) s.heap (isInstance (.ref x) (.type "object")) true := I.type.andThen (PySem.W.looks_mroIn X hm)
  have one : wpAny (model prog w) A (tryCompare (.ref x) "__ne__" b) (fun r s' => ∃ v, r = some v ∧ Q v s') E s := by
    unfold tryCompare
    refine wpAny_bind (ifBound_B X I hne PySem.F.cmp_object.ne (wpAny_call (codeAny_call_builtin PySem.F.cmp_object.ne.plain PySem.F.cmpEntry_ne
      (PySem.W.check_slot PySem.F.cmpKind_ne PySem.F.cmpSplit_ne sub (PySem.F.cmpArgs_ne _ _) (objNe_own (A := A.in1) X I hs hf hu (wpAny_mono h (fun v s' hv => ?_) fun _ _ e => e))))))
    obtain ⟨r, rfl, hq⟩ := hv
    exact ⟨r, rfl, wpAny_pure ⟨_, rfl, hq⟩⟩
  unfold richCompare
  simp only [oneThing_ref]
  refine wpAny_holding (wpAny_bind (wpAny_cRoomFor (Nat.lt_of_succ_lt hu) ?_))
  refine wpAny_bind (I.type.here (wpAny_bind (hb.here ?_)))
  rw [show (Value.ref C != Value.ref C) = false from by simp]
  rw [cmpInfo_NotEq]
  simp only [Bool.false_eq_true, if_false]
  refine wpAny_bind (wpAny_pure ?_)
  simp only [Bool.false_eq_true, if_false]
  refine wpAny_bind (wpAny_mono one (fun r s' z => ?_) fun _ _ e => e)
  obtain ⟨v, rfl, hq⟩ := z
  exact wpAny_pure hq
end
/-- o != p, both of the class at C, by C's own __eq__ -/
def rNeOwn (C : Addr) (sp : Sp) (E : XK) : R2 := fun x y H Q => ∃ a b dx dy fs gs, x = .ref a ∧ y = .ref b ∧ H a = some (.ins C dx fs) ∧ H b = some (.ins C dy gs) ∧ sp [.ref a, .ref b] H (fun v H' => ∃ k, v = .bl k ∧ Q (.bl (!k)) H') E
/-- what the class says of != -/
structure NeC (K : PySem.W.Frag) (C : Addr) : Prop where
  ne : PySem.W.findIn K (.ref C) "__ne__" = some (some (.builtin "object.__ne__"))
  ob : PySem.W.mroIn K C (.type "object") = some true
def fNe (C : Str) : Fact := fun K => He.eqO (PySem.W.findIn K (.ref (He.ga K C)) "__ne__") (some (some (.builtin "object.__ne__"))) && decide (PySem.W.mroIn K (He.ga K C) (.type "object") = some true)
theorem fNe_ok {C : Str} {K : PySem.W.Frag} (h : fNe C K = true) : NeC K (He.ga K C) := by
  obtain ⟨h1, h2⟩ := He.ba h
  exact ⟨He.eqO_ok h1, of_decide_eq_true h2⟩
section
variable {X : Cx} {CX : CXT} {k : Nat} {C f : Addr} {fd : FuncData} {ps : List Str} {sp : Sp} {E : XK}
theorem op_neOwn (F : FnOk X.prog X.w X.K X.mg X.base CX k f fd ps sp) (hr : Room (k + 1) X.A) (N : NeC X.K C) (D : Meth X.K C "__eq__" f) (hb : Binds X.K fd ps []) (hx : Passes CX X E) : OpR X (compareOp .NotEq) (rNeOwn C sp E) := by
  intro pins s σ H x y v u Q I rx ry hq
  obtain ⟨a, b, dx, dy, fs, gs, rfl, rfl, ha, hb', q⟩ := hq
  cases rx
  cases ry
  obtain ⟨mA, J, _⟩ := ins_get I.hok ha
  obtain ⟨mB, J', _⟩ := ins_get I.hok hb'
  obtain ⟨od, J, _⟩ := J.look
  obtain ⟨od', J', _⟩ := J'.look
  obtain ⟨m, hF⟩ := I.fr
  show wpAny (model X.prog X.w) X.A (richCompare .NotEq (.ref a) (.ref b)) _ _ _
  refine rc_neOwn (hr.in1).units0 hF I.ok.mod.kin J J'.type N.ne N.ob D.at_ D.fn ?_
  have hl := F.len _ _ _ _ q
  have r2 : Vals [V.ref a, V.ref b] [Value.ref a, Value.ref b] := .cons rfl (.cons rfl .nil)
  refine wpAny_call (codeAny_mono (F.run X.A.in1 X.stack s H ⟨[.ref a, .ref b], []⟩ [.ref a, .ref b] [.ref a, .ref b] _ E hr.in1 I.env0.in1 (by
    have := hb s [.ref a, .ref b] I.kIn (by simpa using hl)
    simpa using this) r2 q) fun r s' hq => ?_)
  cases r with
  | error e => exact hx pins σ H s e s' I hq
  | ok fl =>
    cases fl with
    | ret w =>
      obtain ⟨z, H', I', rz, n, ez, q'⟩ := I.after hq
      subst ez
      cases rz
      exact ⟨n, rfl, .bl (!n), H', I', rfl, q'⟩
    | next => exact False.elim hq
    | brk => exact False.elim hq
    | cont => exact False.elim hq
end
/-- C.m(k = v, ..), C.m(): m a classmethod -/
def tCMethK (C : Addr) (m : Nat) (sp : Sp) (gV : List V → List V → List V) (E : L2.St → XK) (ta : TE) (tk : TA) : TE := fun σ H Q => ta σ H fun x H1 => x = .ref C ∧ tk σ H1 fun zs H2 => zs.length = m ∧ sp (gV [.ref C] zs) H2 Q (E σ)
/-- cls(e, .., k = v, ..), the class in slot i -/
def tMakeLK (i : Nat) (C : Addr) (n m : Nat) (sp : Sp) (gV : List V → List V → List V) (E : XK) (t tk : TA) : TE := fun σ H Q => σ[i]? = some (some (.ref C)) ∧ tMakeK C n m sp gV E t tk σ H Q
section
variable {X : Cx} {CX : CXT} {k n i : Nat} {C p f g : Addr} {mc : Value} {fd : FuncData} {ps ks : List Str} {sp : Sp} {x m : Str} {o e : Expr} {es : List Expr} {kws : List Keyword} {ta : TE} {t tk : TA} {gg : List Value → List Value → List Value} {gV : List V → List V → List V} {pos apos np : Pos} {pl : Sem Bool}
theorem pe_cmethK {E : L2.St → XK} (he : PE X o ta) (r : CRead X.K C mc) (c : CMet X.K C mc m p g) (F : FnOk X.prog X.w X.K X.mg X.base CX k g fd ps sp) (hr : Room k X.A) (hb : KBn X.K fd ps 1 ks gg gV) (hx : ∀ σ, PassesAt CX X σ (E σ)) (hkw : PK X kws tk)
    (hall : (backToKw pos (keywordEach kws X.env)).all (·.1.isSome) = true := by rfl) (hks : (backToKw pos (keywordEach kws X.env)).filterMap (·.1) = ks := by rfl)
    (hpl : ((backTo pos (starEach [] X.env)).any (·.1) || (backToKw pos (keywordEach kws X.env)).any (·.1.isNone)) = false := by rfl)
    (ht : eval (.Call (.Attribute o m apos) [] kws pos) X.env = (do
      let ov ← eval o X.env
      standAt apos.atName
      let (f, first) ← holding [ov] (getMethod ov m pl)
      callWith pos f first (backTo pos (starEach [] X.env)) (backToKw pos (keywordEach kws X.env))) := by rfl) :
    PE X (.Call (.Attribute o m apos) [] kws pos) (tCMethK C ks.length sp gV E ta tk) := by
  refine ⟨fun pins s σ H Q I h => ?_⟩
  refine PySem.W.methodCall_KW (pl := pl) (thn (he.run pins s σ H _ I h) fun u s1 ⟨x, H1, I1, rx, ex, q⟩ => ?_) ht
  subst ex
  obtain rfl : u = Value.ref C := rx
  refine getmethcm_ok I1 r c fun s2 I2 => ?_
  refine PySem.W.callWith_of hpl (PySem.W.keeps_M (K := X.K) (self := .ref C) c.fi) (evalArgs_kw2_nil hall ?_)
  refine thn (hkw.run pos _ s2 σ H1 _ I2 q) fun ws s3 ⟨zs, H2, I3, rz, l2, q2⟩ => ⟨⟨pin_at I3, I3.kIn⟩, ?_⟩
  rw [hks]
  have z : wpAny (model X.prog X.w) X.A (call (.ref s1.heap.objs.size) [] (ks.zip ws)) (EP X ((s1.heap.objs.size, PySem.W.methodObj (.ref g) (.ref C)) :: pins) σ Q) X.xe s3 :=
    wpAny_call (PySem.W.method_call (pin_at I3) (codeAny_mono (F.run X.A X.stack s3 H2 ⟨[.ref C], ks.zip ws⟩ (gg [.ref C] ws) (gV [.ref C] zs) Q (E σ) hr I3.env0 (hb.to _ [.ref C] ws I3.kIn rfl (rz.length.symm.trans l2)) (hb.rel (.cons rfl .nil) rz) q2) fun r s' hq => by
      cases r with
      | error e => exact hx σ _ H2 s3 e s' I3 hq
      | ok fl =>
        cases fl with
        | ret u => exact I3.after hq
        | next => exact False.elim hq
        | brk => exact False.elim hq
        | cont => exact False.elim hq))
  exact thn z fun _ _ y => unpinE y
theorem pe_makeLK {E : XK} (M : Mk X.K C f) (F : FnOk X.prog X.w X.K X.mg X.base CX k f fd ps sp) (hr : Room (k + 1) X.A) (hN : X.N[i]? = some x) (hv : Vis X.env.scope x) (hb : KBn X.K fd ps (n + 1) ks gg gV) (hx : Passes CX X E) (ha : PA X (e :: es) t) (hkw : PK X kws tk)
    (hall : (backToKw pos (keywordEach kws X.env)).all (·.1.isSome) = true := by rfl) (hks : (backToKw pos (keywordEach kws X.env)).filterMap (·.1) = ks := by rfl) (hdb : (x == ("__debug__" : Str)) = false := by decide) (hcd : (x == ("__classdict__" : Str)) = false := by decide)
    (he : starEach (e :: es) X.env = (false, eval e X.env) :: starEach es X.env := by rfl) (hpl : ((backTo pos (starEach (e :: es) X.env)).any (·.1) || (backToKw pos (keywordEach kws X.env)).any (·.1.isNone)) = false := by rfl) :
    PE X (.Call (.Name x np) (e :: es) kws pos) (tMakeLK i C n ks.length sp gV E t tk) := by
  refine ⟨fun pins s σ H Q I h => ?_⟩
  obtain ⟨hs, ht⟩ := h
  refine wpAny_Call_Name_kw (thn ((pe_var (pos := np) hN hv hdb hcd).run pins s σ H (fun v H1 => v = .ref C ∧ H1 = H) I ⟨.ref C, hs, rfl, rfl⟩) fun u s0 ⟨v, H0, I0, r1, q1⟩ => ?_)
  obtain ⟨rfl, rfl⟩ := q1
  cases r1
  refine PySem.W.callWith_KW (h₀ := X.base) I.ok.mod.kin M.kp hall (thn (ha.run pos pins s0 σ _ _ I0 ht) fun us s1 ⟨vs, H1, I1, r, q⟩ => ?_) hpl he
  refine thn (hkw.run pos pins s1 σ H1 _ I1 q) fun ws s2 ⟨zs, H2, I2, rz, l1, l2, q2⟩ => ⟨I2.kIn, ?_⟩
  rw [hks]
  exact run_makeK M F hr hb hx I2 r rz l1 l2 q2
end
/-! ### the head: classmethods -/
def wCls (C m : Str) (K : PySem.W.Frag) : Addr := He5.wf K (He.ga K C) "classmethod" m
def fCMet (C m : Str) : Fact := fun K => He5.wrapB K (He.ga K C) "classmethod" "classmethod.__get__" m && PySem.W.fnIn K (He5.wf K (He.ga K C) "classmethod" m)
theorem fCMet_ok {C m : Str} {K : PySem.W.Frag} (h : fCMet C m K = true) : CMet K (He.ga K C) (.type "type") m (He.ma K (He.ga K C) m) (wCls C m K) := by
  obtain ⟨h1, h2⟩ := He.ba h
  exact He5.cmet_of h1 h2
theorem passLS {X : Cx} : ∀ σ : L2.St, PassesAt (L2.CX X.prog X.w) X σ E0 := fun σ pins H s e s' I c => passL pins σ H s e s' I c
/-! ### isinstance of instances of an own class -/
structure InsC (K : PySem.W.Frag) (C : Addr) : Prop where
  cl : Cls K C
  ha : PySem.W.findIn K (.ref C) "__class__" = some (some (.builtin "object.__class__"))
  hn : PySem.W.specialIn K (.builtin "object.__class__") "__get__" = some (some (.builtin "getset_descriptor.__get__"))
  htk : PySem.W.takesIn K (.builtin "object.__class__") = some true
  hm : PySem.W.mroIn K C (.type "object") = some true
  me : PySem.W.kitOne K (.ref C) (.ref C) = some true
def fIns (C : Str) : Fact := fun K => (He.Fa.cls C).ok K && (He.eqO (PySem.W.findIn K (.ref (He.ga K C)) "__class__") (some (some (.builtin "object.__class__"))) && (He.eqO (PySem.W.specialIn K (.builtin "object.__class__") "__get__") (some (some (.builtin "getset_descriptor.__get__"))) &&
  (decide (PySem.W.takesIn K (.builtin "object.__class__") = some true) && (decide (PySem.W.mroIn K (He.ga K C) (.type "object") = some true) && decide (PySem.W.kitOne K (.ref (He.ga K C)) (.ref (He.ga K C)) = some true)))))
theorem fIns_ok {C : Str} {K : PySem.W.Frag} (h : fIns C K = true) : InsC K (He.ga K C) := by
  obtain ⟨h0, h⟩ := He.ba h
  obtain ⟨h1, h⟩ := He.ba h
  obtain ⟨h2, h⟩ := He.ba h
  obtain ⟨h3, h⟩ := He.ba h
  obtain ⟨h4, h5⟩ := He.ba h
  exact ⟨He.cls_ok h0, He.eqO_ok h1, He.eqO_ok h2, of_decide_eq_true h3, of_decide_eq_true h4, of_decide_eq_true h5⟩
theorem r_isC {K : PySem.W.Frag} {C a dx : Addr} {fs : List (Str × V)} {H : Hp} {Q : VK} (c : InsC K C) (ha : H a = some (.ins C dx fs)) (h : Q (.bl true) H) : rIsi K [.ref a, .ref C] H Q :=
  ⟨.ref a, .ref C, .ref C, .ref C, true, rfl, .own C, .base (TyOf.ins ha c.cl c.ha c.hn c.htk c.hm), c.me, h⟩
section
variable {K : PySem.W.Frag} {H : Hp} {Q : VK} {σ : S}
theorem r_cmethK {C : Addr} {m : Nat} {sp : Sp} {gV : List V → List V → List V} {E : L2.St → XK} {tk : TA} (h : tk σ H fun zs H2 => zs.length = m ∧ sp (gV [.ref C] zs) H2 Q (E σ)) : tCMethK C m sp gV E (tC (.ref C)) tk σ H Q := ⟨rfl, h⟩
end
end Px

/-! own errors over any of some bases whose __init__ says super().__init__("..") and keeps its arguments, none, one or more -/
namespace PySem
namespace PxE
open PySem.W PySem.Calls PyProof.Rows PySem.HandSPX Builtin Builtin.ObjectAttr
structure Bas (B newId initId : String) (bmB : List Value) : Prop where
  fb : ExcBaseFacts B newId initId bmB
  kx : KxsFacts B initId
  pass : ∀ self, refuseLoop self "__setattr__" bmB = pure ()
  obj : bmB.contains (.type "object") = true
theorem bas_ValueError : Bas "ValueError" "ValueError.__new__" "ValueError.__init__" [.type "ValueError", .type "Exception", .type "BaseException", .type "object"] := ⟨F.excBase_ValueError, kxs_ValueError, F.store_ValueError.passes, by decide +kernel⟩
theorem bas_LookupError : Bas "LookupError" "LookupError.__new__" "LookupError.__init__" [.type "LookupError", .type "Exception", .type "BaseException", .type "object"] := ⟨F.excBase_LookupError, kxs_LookupError, F.store_LookupError.passes, by decide +kernel⟩
theorem bas_IndexError : Bas "IndexError" "IndexError.__new__" "IndexError.__init__" [.type "IndexError", .type "LookupError", .type "Exception", .type "BaseException", .type "object"] := ⟨F.excBase_IndexError, kxs_IndexError, F.store_IndexError.passes, by decide +kernel⟩
theorem bas_RuntimeError : Bas "RuntimeError" "RuntimeError.__new__" "RuntimeError.__init__" [.type "RuntimeError", .type "Exception", .type "BaseException", .type "object"] := ⟨F.excBase_RuntimeError, kxs_RuntimeError, F.store_RuntimeError.passes, by decide +kernel⟩
theorem bas_OverflowError : Bas "OverflowError" "OverflowError.__new__" "OverflowError.__init__" [.type "OverflowError", .type "ArithmeticError", .type "Exception", .type "BaseException", .type "object"] := ⟨F.excBase_OverflowError, kxs_OverflowError, F.store_OverflowError.passes, by decide +kernel⟩
theorem bas_TypeError : Bas "TypeError" "TypeError.__new__" "TypeError.__init__" [.type "TypeError", .type "Exception", .type "BaseException", .type "object"] := ⟨F.excBase_TypeError, kxs_TypeError, F.store_TypeError.passes, by decide +kernel⟩
section
variable {prog : Program} {w : World} {A : Around} {E : Value → Shared → Prop} {R : Result → Shared → Prop} {hp : Heap} {g : Array GenState} {d : Drawn} {t : Nat} {os : OsState} {B newId initId : String} {bmB : List Value}
theorem osa_first (BS : Bas B newId initId bmB) {K : W.Frag} {name : Str} {tk : Tok} {v : Value} {x C : Addr} {fv : Array Value} {cd : ClassData}
    (X : K.In hp) (hx : hp.get? x = some { cls := .ref C, data := .fields fv }) (hcd : W.clsIn K C = some cd) (hm : cd.mro = .ref C :: bmB) (hh : cd.hasDict = true) (ha : W.findIn K (.ref C) name = some none)
    (hq : ∀ h' tk' dx, (∀ b o, b ≠ x → hp.get? b = some o → h'.get? b = some o) → hp.objs.size ≤ dx → dx ≠ x → h'.get? x = some { cls := .ref C, dict := some dx, data := .fields fv } →
      h'.Ns1 dx (fun y => if y = name then some v else none) → R (.ok (.ret .none)) ⟨h', g, d, tk', os⟩) :
    codeAny (model prog w) A (.call (.builtin "object.__setattr__") ⟨[.ref x, .str name tk, v], []⟩) R ⟨hp, g, d, t, os⟩ := by
  have I : W.InstAt hp x { cls := .ref C, data := .fields fv } C none := ⟨hx, rfl, rfl, trivial⟩
  have SF := F.store_object
  have ne : cd.mro.isEmpty = false := by rw [hm]; rfl
  have hob : cd.mro.contains (.type "object") = true := by rw [hm, List.contains_cons, BS.obj, Bool.or_true]
  have hxs : x ≠ hp.objs.size := Nat.ne_of_lt (Heap.lt_size hx)
  have sub : W.Looks (model prog w) hp (isInstance (.ref x) (.type "object")) true := I.type.andThen (W.looks_mroIn X (by unfold W.mroIn; rw [hcd, Option.bind_some, if_neg (by rw [ne]; decide), hob]))
  refine codeAny_call_builtin SF.slot.plain SF.entry (@W.check_slot (model prog w) _ _ ⟨hp, g, d, t, os⟩ "object.__setattr__" "object" "__setattr__" (.ref x) [.str name tk, v] [] _ SF.kind SF.split sub (SF.args (.ref x) (.str name tk) v) ?_)
  have hmr : W.Looks (model prog w) hp (mroOf (.ref C)) cd.mro := (W.looks_clsIn X hcd).andThen .now
  have L3 : W.Looks (model prog w) hp (storeTaker? none) none := .now
  have hcls : W.Looks (model prog w) hp (classData C) cd := W.looks_clsIn X hcd
  have hps : refuseLoop (.ref x) "__setattr__" cd.mro = pure () := by rw [hm, refuseLoop_ref]; exact BS.pass _
  rw [W.osa_eq, refuse_eq]
  refine wpAny_bind (wpAny_bind (I.type.at (wpAny_bind (hmr.at ?_))))
  rw [hps]
  refine wpAny_pure (wpAny_bind (I.type.at (wpAny_bind ((W.looks_findIn X ha).at (wpAny_bind (L3.at ?_))))))
  show wpAny _ _ (storeInOwnDict (.ref x) (.ref C) (.str name tk) name v false) _ _ _
  obtain ⟨nm, bs, mro, ns, qn, hd, sn, sb, ab, col, del⟩ := cd
  dsimp only at hh
  subst hh
  unfold storeInOwnDict ownDictForStores
  repeat (first | with_reducible refine HandSPX.store_in_new ?_ ?_ | with_reducible refine wpAny_loadPart_at hx ?_ | with_reducible refine hcls.at ?_ | wp_step)
  · exact ⟨_, #[], _, (Heap.get?_update_ne _ _ _ _ hxs.symm).trans (Heap.get?_push_at rfl rfl), rfl, fun e he => absurd he (by simp), fun _ => rfl⟩
  · intro h' tk' hn' hs
    have hx₁ : (hp.push { cls := .type "dict", data := .dict #[] }).get? x = some { cls := .ref C, data := .fields fv } := Heap.get?_push_of_some _ hx
    refine hq h' tk' hp.objs.size (fun b o hb ho => ?_) (Nat.le_refl _) hxs.symm ?_ hn'
    · exact (hs.2 b (Nat.ne_of_lt (Heap.lt_size ho))).trans ((Heap.get?_update_ne _ _ _ _ hb).trans (Heap.get?_push_of_some _ ho))
    · exact (hs.2 x hxs).trans (Heap.get?_update_self _ hx₁ rfl)
theorem osa_more (BS : Bas B newId initId bmB) {K : W.Frag} {name : Str} {tk : Tok} {v : Value} {x C dx : Addr} {fv : Array Value} {cd : ClassData} {m0 : Str → Option Value} {nl : List Str}
    (X : K.In hp) (hx : hp.get? x = some { cls := .ref C, dict := some dx, data := .fields fv }) (hns : hp.Ns1 dx m0) (hw : Within m0 nl) (hz : nl.length ≤ 1000) (hcd : W.clsIn K C = some cd) (hm : cd.mro = .ref C :: bmB) (hh : cd.hasDict = true)
    (ha : W.findIn K (.ref C) name = some none)
    (hq : ∀ h' tk', (∀ b o, b ≠ dx → hp.get? b = some o → h'.get? b = some o) → h'.Ns1 dx (fun y => if y = name then some v else m0 y) → R (.ok (.ret .none)) ⟨h', g, d, tk', os⟩) :
    codeAny (model prog w) A (.call (.builtin "object.__setattr__") ⟨[.ref x, .str name tk, v], []⟩) R ⟨hp, g, d, t, os⟩ := by
  obtain ⟨oD, esD, epD, hoD, hdD, _⟩ := hns.count hw
  have I : W.InstAt hp x { cls := .ref C, dict := some dx, data := .fields fv } C (some oD) := ⟨hx, rfl, rfl, hoD⟩
  have SF := F.store_object
  have ne : cd.mro.isEmpty = false := by rw [hm]; rfl
  have hob : cd.mro.contains (.type "object") = true := by rw [hm, List.contains_cons, BS.obj, Bool.or_true]
  have sub : W.Looks (model prog w) hp (isInstance (.ref x) (.type "object")) true := I.type.andThen (W.looks_mroIn X (by unfold W.mroIn; rw [hcd, Option.bind_some, if_neg (by rw [ne]; decide), hob]))
  refine codeAny_call_builtin SF.slot.plain SF.entry (@W.check_slot (model prog w) _ _ ⟨hp, g, d, t, os⟩ "object.__setattr__" "object" "__setattr__" (.ref x) [.str name tk, v] [] _ SF.kind SF.split sub (SF.args (.ref x) (.str name tk) v) ?_)
  have hmr : W.Looks (model prog w) hp (mroOf (.ref C)) cd.mro := (W.looks_clsIn X hcd).andThen .now
  have L3 : W.Looks (model prog w) hp (storeTaker? none) none := .now
  have hcls : W.Looks (model prog w) hp (classData C) cd := W.looks_clsIn X hcd
  have hps : refuseLoop (.ref x) "__setattr__" cd.mro = pure () := by rw [hm, refuseLoop_ref]; exact BS.pass _
  rw [W.osa_eq, refuse_eq]
  refine wpAny_bind (wpAny_bind (I.type.at (wpAny_bind (hmr.at ?_))))
  rw [hps]
  refine wpAny_pure (wpAny_bind (I.type.at (wpAny_bind ((W.looks_findIn X ha).at (wpAny_bind (L3.at ?_))))))
  show wpAny _ _ (storeInOwnDict (.ref x) (.ref C) (.str name tk) name v false) _ _ _
  obtain ⟨nm, bs, mro, ns, qn, hd, sn, sb, ab, col, del⟩ := cd
  dsimp only at hh
  subst hh
  unfold storeInOwnDict ownDictForStores
  repeat (first | with_reducible refine OEX.store_in_old hns hw hz ?_ | with_reducible refine wpAny_loadPart_at hx ?_ | with_reducible refine hcls.at ?_ | wp_step)
  intro h' tk' hn' hs
  exact hq h' tk' (fun b o hb ho => (hs.2 b hb).trans ho) hn'
end
/-- a field that __init__ keeps: its name, the parameter, the value, the four places -/
structure FE where
  fld : Str
  prm : Str
  v : Value
  p6 : Pos
  p7 : Pos
  p8 : Pos
  p9 : Pos
abbrev FE.st (q : FE) : Stmt := s2 q.fld q.prm q.p6 q.p7 q.p8 q.p9
def putM (m : Str → Option Value) : List FE → (Str → Option Value)
  | [] => m
  | q :: r => putM (fun y => if y = q.fld then some q.v else m y) r
/-- what a made exception has of its fields: no dict, or a dict with them -/
def Made (h h' : Heap) (e : Addr) (od : Option Addr) (m : Str → Option Value) : Prop := (od = none ∧ m = fun _ => none) ∨ ∃ dx nl, od = some dx ∧ h.objs.size ≤ dx ∧ dx ≠ e ∧ h'.Ns1 dx m ∧ Within m nl ∧ nl.length ≤ 1000
section
variable {prog : Program} {w : World} {A A' : Around} {E' : Value → Shared → Prop} {R : Result → Shared → Prop} {hp : Heap} {g : Array GenState} {d : Drawn} {t : Nat} {os : OsState} {K : Frag} {B newId initId : String} {bmB : List Value}
variable {C f cc cda e t0 L : Addr} {v : Value} {mg mb : Str → Option Value} {name qual txt fld prm : Str} {params : Arguments} {scope : Scope} {dV kV doc pm ct oc ccl cl : Value} {an od cdd cld : Option Addr} {osl ccs csl : Array (Option Value)} {vs : Array Value} {file : Str} {tf : Tok} {ar : Arg}
  {p0 p1 p2 p3 p4 p5 : Pos} {k : Nat} {cd : ClassData} {binds : List (Str × Value)} {env : Env}
theorem within_put {m : Str → Option Value} {nl : List Str} {x : Str} {v : Value} (h : Within m nl) : Within (fun y => if y = x then some v else m y) (x :: nl) := Within.cons x v h
/-- the statements that keep the fields -/
theorem flds_run (BS : Bas B newId initId bmB) (hcd : clsIn K C = some cd) (hm : cd.mro = .ref C :: bmB) (hh : cd.hasDict = true) (hsk : env.scope.kind = .function) (hself : env.scope.names.lookup ("self" : Str) = some .local) (hloc : env.locals = L) (sa : findIn K (.ref C) "__setattr__" = some (some (.builtin "object.__setattr__")))
    (lself : binds.reverse.lookup ("self" : Str) = some (Value.ref e)) (hKe : ∀ a o, K.lookup a = some o → a ≠ e) (hL : hp.objs.size ≤ L) (hLe : L ≠ e) {Q : Flow → Shared → Prop} :
    ∀ (fl : List FE) (h4 : Heap) (t4 : Nat) (od : Option Addr) (m0 : Str → Option Value) (n : Nat), K.In hp → (∀ b o, b ≠ e → hp.get? b = some o → h4.get? b = some o) → h4.Ns L (fun x => binds.reverse.lookup x) → (∃ t1, h4.get? e = some ({ cls := .ref C, dict := od, data := .fields #[.ref t1, .none, .none, .none, .bool false, .none] } : Obj)) →
      ((od = none ∧ m0 = fun _ => none) ∨ ∃ dx nl, od = some dx ∧ hp.objs.size ≤ dx ∧ dx ≠ e ∧ dx ≠ L ∧ h4.Ns1 dx m0 ∧ Within m0 nl ∧ nl.length ≤ n) → n + fl.length ≤ 1000 →
      (∀ q ∈ fl, env.scope.names.lookup q.prm = some .local ∧ binds.reverse.lookup q.prm = some q.v ∧ (q.prm == ("__debug__" : Str)) = false ∧ findIn K (.ref C) q.fld = some none ∧ swapsWith (.Name q.prm q.p8) (some (.Attribute (.Name "self" q.p6) q.fld q.p7)) q.p9.line env = pure false) →
      (∀ h' t' od' t1, (∀ b o, b ≠ e → hp.get? b = some o → h'.get? b = some o) → h'.get? e = some ({ cls := .ref C, dict := od', data := .fields #[.ref t1, .none, .none, .none, .bool false, .none] } : Obj) → Made hp h' e od' (putM m0 fl) → (od' = none ↔ od = none ∧ fl = []) → Q .next ⟨h', g, d, t', os⟩) →
      wpAny (model prog w) A' (execs (fl.map FE.st) env) Q E' ⟨h4, g, d, t4, os⟩ := by
  intro fl
  induction fl with
  | nil =>
    intro h4 t4 od m0 n X kk hns he hst hn hf hq
    obtain ⟨t1, he⟩ := he
    refine wpAny_execs_nil ?_
    refine hq h4 t4 od t1 kk he ?_ (by simp)
    rcases hst with ⟨a, b⟩ | ⟨dx, nl, a, b, c, _, c1, c2, c3⟩
    · exact .inl ⟨a, b⟩
    · exact .inr ⟨dx, nl, a, b, c, c1, c2, Nat.le_trans c3 (Nat.le_trans (Nat.le_add_right _ _) hn)⟩
  | cons q fl ih =>
    intro h4 t4 od m0 n X kk hns he hst hn hf hq
    obtain ⟨t1, he⟩ := he
    obtain ⟨f1, f2, f3, f4, f5⟩ := hf q (List.mem_cons_self ..)
    have X4 : K.In h4 := fun a o z => kk a o (hKe a o z) (X a o z)
    subst hloc
    show wpAny _ _ (execs (q.st :: fl.map FE.st) env) _ _ _
    refine wpAny_execs_cons (plainObj_wpAny_Assign_Attribute ?_ f5)
    refine wpAny_Name (wpAny_loadName_local hsk f1 hns f2 ?_) f3
    refine wpAny_Name (wpAny_loadName_local hsk hself hns lself ?_) (by decide)
    have rest : ∀ (h5 : Heap) (t5 : Nat) (dx : Addr) (nl : List Str), (∀ b o, b ≠ e → hp.get? b = some o → h5.get? b = some o) → h5.Ns env.locals (fun x => binds.reverse.lookup x) → (∃ t1, h5.get? e = some ({ cls := .ref C, dict := some dx, data := .fields #[.ref t1, .none, .none, .none, .bool false, .none] } : Obj)) → hp.objs.size ≤ dx → dx ≠ e → dx ≠ env.locals →
        h5.Ns1 dx (fun y => if y = q.fld then some q.v else m0 y) → Within (fun y => if y = q.fld then some q.v else m0 y) nl → nl.length ≤ n + 1 → wpAny (model prog w) A' (execs (fl.map FE.st) env) Q E' ⟨h5, g, d, t5, os⟩ := fun h5 t5 dx nl k5 n5 e5 d1 d2 d3 d4 d5 d6 =>
      ih h5 t5 (some dx) _ (n + 1) X k5 n5 e5 (.inr ⟨dx, nl, rfl, d1, d2, d3, d4, d5, d6⟩) (by rw [List.length_cons] at hn; omega) (fun q' hq' => hf q' (List.mem_cons_of_mem _ hq')) fun h' t' od' t1 a1 a2 a3 a4 => hq h' t' od' t1 a1 a2 a3 (by simp at a4 ⊢; exact a4)
    rcases hst with ⟨rfl, rfl⟩ | ⟨dx, nl, rfl, b1, b2, b3, c1, c2, c3⟩
    · refine set_plain X4 (ox := { cls := .ref C, dict := none, data := .fields #[.ref t1, .none, .none, .none, .bool false, .none] }) (od := none) ⟨he, rfl, rfl, trivial⟩ sa ?_
      refine osa_first BS X4 he hcd hm hh f4 (fun h5 tk5 dx k5 dn dne hx5 hn5 => ?_)
      have zl : env.locals < h4.objs.size := hns.lt
      refine rest h5 tk5 dx [q.fld] (fun b o hb z => k5 b o hb (kk b o hb z)) (hns.at fun o z => k5 _ o hLe z) ⟨t1, hx5⟩ (Nat.le_trans hL (Nat.le_trans (Nat.le_of_lt zl) dn)) dne (Nat.ne_of_gt (Nat.lt_of_lt_of_le zl dn)) hn5 (within_put (m := fun _ => none) Within.nil) (by simp)
    · obtain ⟨oD, esD, epD, hoD, _⟩ := c1.count c2
      refine set_plain X4 (ox := { cls := .ref C, dict := some dx, data := .fields #[.ref t1, .none, .none, .none, .bool false, .none] }) (od := some oD) ⟨he, rfl, rfl, hoD⟩ sa ?_
      refine osa_more BS X4 he c1 c2 (by omega) hcd hm hh f4 (fun h5 tk5 k5 hn5 => ?_)
      refine rest h5 tk5 dx (q.fld :: nl) (fun b o hb z => k5 b o (fun y => ?_) (kk b o hb z)) (hns.at fun o z => k5 _ o (Ne.symm b3) z) ⟨t1, k5 _ _ (Ne.symm b2) he⟩ b1 b2 b3 hn5 (within_put c2) (by simp only [List.length_cons]; omega)
      rw [y] at z
      exact absurd (Heap.lt_size z) (Nat.not_lt.mpr b1)
/-- super().__init__("txt"), then the fields -/
theorem init_gen (BS : Bas B newId initId bmB) {fl : List FE} (X : K.In hp) (hg : hp.Ns mainGlobals mg) (hb : hp.Ns builtinsNs mb) (hmb : mb "super" = some (.type "super")) (hsuper : mg "super" = none) (lim : hp.NoLimit) (hroom : A.depth < recursionLimit)
    (lk : K.lookup f = some ⟨oc, od, .func (ksFn name qual params (s1 txt p0 p1 p2 p3 p4 p5 k :: fl.map FE.st) scope dV kV doc pm an (.ref cda) ct cc), osl⟩) (hcd : codeIn K (.ref cda) qual = true)
    (hpar : (params.posonlyargs ++ params.args).head? = some ar) (har : ar.arg = "self")
    (hcode : K.lookup cda = some ⟨ccl, cdd, .fields vs, ccs⟩) (hvs : vs[2]? = some (.str file tf)) (hfile : ((prog.main.file : Str) == file) = true) (htop : (prog.main.scope.names.lookup ("super" : Str)).isSome = false)
    (hcell : K.lookup cc = some ⟨cl, cld, .cell (some (.ref C)), csl⟩)
    (hsc : ∀ x ∈ scope.names, x.2 ≠ .cell) (hs1 : scope.names.lookup ("super" : Str) = some .globalImplicit) (hs2 : scope.names.lookup ("__class__" : Str) = some .free) (hs3 : scope.names.lookup ("self" : Str) = some .local) (hbl : ∀ y ∈ binds, scope.names.lookup y.1 = some .local)
    (hsk : scope.kind = .function) (hco : scope.isCoroutine = false) (hgen : scope.isGenerator = false)
    {nm q : Str} {N : Addr} {bs : List Value} {sn : List Str} {sub : List Value} {ab : Bool} {col : Option Bool} {dd : Option Addr} {k0 k1 k2 k3 k5 : Option Value}
    (hC : K.lookup C = some (excClassObj nm q C N bs bmB true sn sub ab col dd k0 k1 k2 k3 k5 newId)) (sa : findIn K (.ref C) "__setattr__" = some (some (.builtin "object.__setattr__")))
    (hop : nsIn K cStatics "thirdparty.any" = some none) (hsup : ks_superIn K C C "__init__" = some (some (.builtin initId))) (hB : subIn K (.ref C) (.type B) = some true) (hself : mroIn K C (.ref C) = some true)
    (he : hp.get? e = some ({ cls := .ref C, dict := none, data := .fields #[.ref t0, .none, .none, .none, .bool false, .none] } : Obj))
    (hKe : ∀ a o, K.lookup a = some o → a ≠ e) {us : List Value}
    (hbind : BindsTo ⟨hp, g, d, t, os⟩ (ksFn name qual params (s1 txt p0 p1 p2 p3 p4 p5 k :: fl.map FE.st) scope dV kV doc pm an (.ref cda) ct cc) ⟨.ref e :: us, []⟩ binds) (lself : binds.reverse.lookup ("self" : Str) = some (Value.ref e))
    (pl : Addr → Sem Bool) (env : Addr → Env) (henv : env = fun L => callEnv (ksFn name qual params (s1 txt p0 p1 p2 p3 p4 p5 k :: fl.map FE.st) scope dV kV doc pm an (.ref cda) ct cc) L f)
    (hi : ∀ L, interactive (env L) = false) (hw1 : ∀ L, swapsWith (c1 txt p0 p1 p2 p3 p4 k) none p5.line (env L) = pure false)
    (hfl : ∀ q ∈ fl, scope.names.lookup q.prm = some .local ∧ binds.reverse.lookup q.prm = some q.v ∧ (q.prm == ("__debug__" : Str)) = false ∧ findIn K (.ref C) q.fld = some none ∧ ∀ L, swapsWith (.Name q.prm q.p8) (some (.Attribute (.Name "self" q.p6) q.fld q.p7)) q.p9.line (env L) = pure false) (hfn : fl.length ≤ 100)
    (hev : ∀ L, eval (c1 txt p0 p1 p2 p3 p4 k) (env L) = (do
      let ov ← attributeBase (.Call (.Name "super" p0) [] [] p1) "__init__" (env L) (eval (.Call (.Name "super" p0) [] [] p1) (env L))
      standAt p2.atName
      let (f, first) ← holding [ov] (getMethod ov "__init__" (pl L))
      callWith p4 f first (backTo p4 (starEach [.Constant (.str txt) k p3] (env L))) []))
    (hst : ∀ L, starEach [.Constant (.str txt) k p3] (env L) = [(false, eval (.Constant (.str txt) k p3) (env L))])
    (hq : ∀ h' t' od' t1, (∀ b o, b ≠ e → hp.get? b = some o → h'.get? b = some o) → h'.get? e = some ({ cls := .ref C, dict := od', data := .fields #[.ref t1, .none, .none, .none, .bool false, .none] } : Obj) → Made hp h' e od' (putM (fun _ => none) fl) → (od' = none ↔ fl = []) → R (.ok (.ret .none)) ⟨h', g, d, t', os⟩) :
    codeAny (model prog w) A (.call (.ref f) ⟨.ref e :: us, []⟩) R ⟨hp, g, d, t, os⟩ := by
  have hcl : clsIn K C = some { name := nm, bases := bs, mro := .ref C :: bmB, ns := N, qualname := q, hasDict := true, slotNames := sn, subclasses := sub, abstract := ab, collection := col, hasDel := false } := by unfold clsIn; rw [hC] <;> rfl
  refine ks_codeAny_call_defAt (fd := ksFn name qual params (s1 txt p0 p1 p2 p3 p4 p5 k :: fl.map FE.st) scope dV kV doc pm an (.ref cda) ct cc) (body := s1 txt p0 p1 p2 p3 p4 p5 k :: fl.map FE.st) (binds := binds)
    hroom (X _ _ lk) rfl lim (codeRec_of X hcd) rfl hbind hsc hbl (fun h1 hns hk1 => ?_) hco hgen hsk
  have X1 : K.In h1 := X.keeps hk1
  have he1 := hk1 _ _ he
  have ee : ∀ L, callEnv (ksFn name qual params (s1 txt p0 p1 p2 p3 p4 p5 k :: fl.map FE.st) scope dV kV doc pm an (.ref cda) ct cc) L f = env L := fun L => by rw [henv]
  show wpAt _ (A.deeper (callEnv _ hp.objs.size f)) (.func _ (callEnv _ hp.objs.size f)) (execs _ (callEnv _ hp.objs.size f)) _ _ _
  rw [ee hp.objs.size]
  have hk : (env hp.objs.size).scope = scope := by rw [henv]; rfl
  refine ks_wpAt_execs_cons (ks_wpAt_Expr_any (ks_wpAt_MethodCall (pl := pl hp.objs.size) ?_ (hev _)) (hi _) (hw1 _))
  rw [← ee hp.objs.size]
  refine ks_wpAt_super_base hs1 hs2 (by decide) rfl (X1 _ _ lk) rfl hpar rfl (X1 _ _ hcode) rfl hvs hfile htop ?_
  refine ks_loadName_global hsk hs1 (loadGlobal_builtin (hg.keeps hk1) hsuper (hb.keeps hk1) hmb ⟨rfl, ?_⟩)
  refine wpAny_loadName_free hsk hs2 rfl ⟨_, X1 _ _ hcell, rfl⟩ ?_
  rw [har]
  refine wpAny_loadName_local hsk hs3 hns lself ?_
  refine ks_wpAny_isType_cls (X1 _ _ hC) rfl ⟨rfl, ?_⟩
  refine ks_wpAny_call_super (X1 _ _ hC) rfl he1 rfl (fun c z => nomatch z) (looks_mroIn X1 hself) (fun h2 hso k2' => ?_)
  have X2 : K.In h2 := X1.keeps k2'
  have he2 := k2' _ _ he1
  have hns2 := hns.keeps k2'
  have I2 : InstAt h2 e ({ cls := .ref C, dict := none, data := .fields #[.ref t0, .none, .none, .none, .bool false, .none] } : Obj) C none := ⟨he2, rfl, rfl, trivial⟩
  have hsup' : alongIn K "__init__" (((Value.ref C :: bmB).dropWhile (· != .ref C)).drop 1) = some (some (.builtin initId)) := by
    unfold ks_superIn at hsup
    rw [hcl] at hsup
    exact hsup
  refine kxs_getMethod BS.kx hso (looks_opaque X2 hop) (l₀ := Value.ref C :: bmB) (fun A Q E s k q => wpAny_bind ((looks_clsIn X2 hcl) A _ E s k (wpAny_pure q))) rfl X2 hsup' (I2.type.andThen (looks_subIn X2 hB)) (ks_ne X2 I2 hcl) (by decide) ?_
  have k3' : ∀ b o, h2.get? b = some o → (h2.push (kxs_mw initId e)).get? b = some o := fun b o z => Heap.get?_push_of_some _ z
  have hu : (h2.push (kxs_mw initId e)).get? h2.objs.size = some (kxs_mw initId e) := Heap.get?_push_at rfl rfl
  generalize hh3 : h2.push (kxs_mw initId e) = h3 at k3' hu
  have X3 : K.In h3 := X2.keeps k3'
  have he3 := k3' _ _ he2
  have hns3 := hns2.keeps k3'
  have kk3 : ∀ b o, hp.get? b = some o → h3.get? b = some o := fun b o z => k3' b o (k2' b o (hk1 b o z))
  show wpAny _ _ (callWith p4 (.ref h2.objs.size) [] (backTo p4 (starEach [.Constant (.str txt) k p3] _)) []) _ _ _
  rw [ee hp.objs.size, hst]
  refine kxs_callWith (i := initId) (x := e) rfl (evalArgs_plain (spliced_cons (Constant_str (pos := p3) (k := k) (spliced_nil ⟨hu, ?_⟩))))
  have FB := BS.fb
  refine wpAny_call (codeAny_of_tree ?_)
  show wpAny _ (A.deeper (env hp.objs.size)).in1 (callAny (.ref h2.objs.size) ⟨[.str txt _], []⟩) _ _ _
  simp only [callAny]
  refine wpAny_bind (wpAny_load hu ?_)
  simp only [kxs_mw, show (Value.type "method-wrapper" == Value.type "method" || Value.type "method-wrapper" == Value.type "builtin_function_or_method" || Value.type "method-wrapper" == Value.type "method-wrapper") = true by decide, if_true]
  refine KFB.if_so (by decide) ?_
  refine wpAny_bind (check_bound_init FB.toExcCallFacts (X3 _ _ hC) he3 rfl ?_)
  refine wpAny_bind (wpAny_pure (wpAny_pure ?_))
  refine ⟨plainId_quiet FB.init.plain _, codeAny_builtin FB.initEntry ?_⟩
  refine exc_init_tree (cls := .ref C) (t0 := t0) (dv := none) (c2 := .none) (c3 := .none) (b4 := .bool false) he3 (by show 1 ≤ sizeLine; decide) (fun h4 k4' he4 _ => ?_)
  -- the fields
  have eL : hp.objs.size ≠ e := Nat.ne_of_gt (Heap.lt_size he)
  have kk4 : ∀ b o, b ≠ e → hp.get? b = some o → h4.get? b = some o := fun b o hb z => k4' b o hb (kk3 b o z)
  have hns4 : h4.Ns hp.objs.size (fun x => binds.reverse.lookup x) := hns3.at fun o z => k4' _ o eL z
  have he4' : h4.get? e = some ({ cls := .ref C, dict := none, data := .fields #[.ref h3.objs.size, .none, .none, .none, .bool false, .none] } : Obj) := he4
  show wpAt _ _ _ (execs (fl.map FE.st) (env hp.objs.size)) _ _ _
  refine wpAt_of_wpAny (flds_run BS hcl rfl rfl (by rw [hk]; exact hsk) (by rw [hk]; exact hs3) (L := hp.objs.size) (by rw [henv]; rfl) sa lself hKe (Nat.le_refl _) eL fl h4 _ none (fun _ => none) 0 X kk4 hns4 ⟨_, he4'⟩ (.inl ⟨rfl, rfl⟩) (by omega) (fun q hq' => ?_) fun h' t' od' t1 k' e' m' z' => ?_)
  · obtain ⟨f1, f2, f3, f4, f5⟩ := hfl q hq'
    exact ⟨by rw [hk]; exact f1, f2, f3, f4, f5 _⟩
  · exact hq h' t' od' t1 k' e' m' (by simpa using z')
end
def putZ (m : Str → Option Value) : List Str → List Value → (Str → Option Value)
  | f :: fs, v :: vs => putZ (fun y => if y = f then some v else m y) fs vs
  | _, _ => m
/-- what a call of the class's __init__ does: the object gets its fields -/
def InitOkN (prog : Program) (w : World) (K : Frag) (mg : Str → Option Value) (C f : Addr) (fls : List Str) : Prop :=
  ∀ (A : Around) (R : Result → Shared → Prop) (hp : Heap) (g : Array GenState) (d : Drawn) (t : Nat) (os : OsState) (e t0 : Addr) (us : List Value) (mb : Str → Option Value), us.length = fls.length → K.In hp → hp.Ns mainGlobals mg → hp.Ns builtinsNs mb → mb "super" = some (.type "super") → hp.NoLimit →
    A.depth < recursionLimit → (∀ a o, K.lookup a = some o → a ≠ e) → hp.get? e = some ({ cls := .ref C, dict := none, data := .fields #[.ref t0, .none, .none, .none, .bool false, .none] } : Obj) →
    (∀ h' t' od t1, (∀ b o, b ≠ e → hp.get? b = some o → h'.get? b = some o) → h'.get? e = some ({ cls := .ref C, dict := od, data := .fields #[.ref t1, .none, .none, .none, .bool false, .none] } : Obj) → Made hp h' e od (putZ (fun _ => none) fls us) → (od = none ↔ fls = []) → R (.ok (.ret .none)) ⟨h', g, d, t', os⟩) →
    codeAny (model prog w) A (.call (.ref f) ⟨.ref e :: us, []⟩) R ⟨hp, g, d, t, os⟩
end PxE
end PySem
namespace L2
open PySem PySem.Spec PyProof.Rows
/-- what the written part says of such a class -/
structure OexN (K : PySem.W.Frag) (C : Addr) (newId : String) (bmB : List Value) : Prop where
  cls : ∃ nm q N bs sn sub ab col dd k0 k1 k2 k3 k5, K.lookup C = some (excClassObj nm q C N bs bmB true sn sub ab col dd k0 k1 k2 k3 k5 newId)
  sa : PySem.W.findIn K (.ref C) "__setattr__" = some (some (.builtin "object.__setattr__"))
  exC : PySem.W.subIn K (.ref C) (.type "BaseException") = some true
  tyC : PySem.W.typeIn K (.ref C) = some (.type "type")
  kC : PySem.W.keepIn K (.ref C) = true
def zipX (acc : List (Str × V)) : List Str → List V → List (Str × V)
  | f :: fs, v :: vs => zipX ((f, v) :: acc) fs vs
  | _, _ => acc
theorem relO_zip : ∀ {fls : List Str} {vs : List V} {us : List Value} {acc : List (Str × V)} {m : Str → Option Value}, Vals vs us → (∀ g, RelO (acc.lookup g) (m g)) → ∀ g, RelO ((zipX acc fls vs).lookup g) (PySem.PxE.putZ m fls us g)
  | [], _, _, _, _, _, h => by
    intro g
    simp only [zipX, PySem.PxE.putZ]
    exact h g
  | f :: fs, [], [], _, _, _, h => h
  | f :: fs, v :: vs, u :: us, acc, m, .cons rv rr, h => relO_zip (fls := fs) rr (relO_put rv h)
/-- C(e, ..), C's own __init__ keeping its arguments as the fields fls -/
def tMkN (C : Addr) (fls : List Str) (ta : TA) : St → Hp → XK → Prop := fun σ H Q => ta σ H fun vs H1 => vs.length = fls.length ∧ (fls = [] → Q (.ref C) none H1) ∧ (fls ≠ [] → ∀ d, H1 d = none → Q (.ref C) (some d) (upd H1 d (.xd (zipX [] fls vs))))
section
variable {X : Cx} {x : Str} {C fI : Addr} {k : Nat} {fls : List Str} {B newId initId : String} {bmB : List Value} {pos p : Pos}
theorem mk_run {pins : List (Addr × Obj)} {σ : St} {H1 : Hp} {Q : XK} {s1 : Shared} {us : List Value} {vs : List V} (BS : PySem.PxE.Bas B newId initId bmB) (T : OexN X.K C newId bmB) (iC : PySem.W.findIn X.K (.ref C) "__init__" = some (some (.ref fI))) (tI : PySem.W.typeIn X.K (.ref fI) = some (.type "function"))
    (IO : PySem.PxE.InitOkN X.prog X.w X.K X.mg C fI fls) (hr : Room (k + 1) X.A) (I1 : Inv X pins σ H1 s1) (r1 : Vals vs us) (hl : vs.length = fls.length) (hfl : fls.length ≤ 100)
    (q0 : fls = [] → Q (.ref C) none H1) (q1 : fls ≠ [] → ∀ d, H1 d = none → Q (.ref C) (some d) (upd H1 d (.xd (zipX [] fls vs)))) :
    wpAny (model X.prog X.w) X.A (call (.ref C) us) (MkP X pins σ Q) X.xe s1 := by
  obtain ⟨nm, q, N, bs, sn, sub, ab, col, dd, k0, k1, k2, k3, k5, hC⟩ := T.cls
  have ul : us.length = fls.length := r1.length.symm.trans hl
  obtain ⟨hp, g, dr, tk, os⟩ := s1
  have kk : ∀ b o, hp.get? b = some o → ((hp.push (PySem.W.kdv_tup us)).push (PySem.HandSPX.excO C hp.objs.size)).get? b = some o := fun b o e => Heap.get?_push_of_some _ (Heap.get?_push_of_some _ e)
  have hget : ((hp.push (PySem.W.kdv_tup us)).push (PySem.HandSPX.excO C hp.objs.size)).get? (hp.objs.size + 1) = some (PySem.HandSPX.excO C hp.objs.size) := by heap_get
  have e0 := I1.env0
  obtain ⟨mb, hmb, hmv⟩ := e0.mod.blt
  have hus : us.length ≤ sizeLine := by rw [ul, sizeLine_eq]; omega
  have old : ∀ b o, hp.get? b = some o → b ≠ hp.objs.size + 1 := fun b o z => Nat.ne_of_lt (Nat.lt_succ_of_lt (Heap.lt_size z))
  refine wpAny_call (PySem.HandSPX.call_own BS.fb (fun Y => rfl) (I1.kIn _ _ hC) (PySem.W.looks_findIn I1.kIn iC) (fun self => PySem.W.bind_fn I1.kIn self tI) hus ?_)
  have szp : ((hp.push (PySem.W.kdv_tup us)).push (PySem.HandSPX.excO C hp.objs.size)).objs.size = hp.objs.size + 2 := by rw [Heap.size_push, Heap.size_push]
  generalize hpp : (hp.push (PySem.W.kdv_tup us)).push (PySem.HandSPX.excO C hp.objs.size) = hp2 at *
  have kb : ∀ b o, X.base.get? b = some o → hp2.get? b = some o := fun b o z => kk b o (e0.bs b o z).1
  have bs2 : mb "super" = some (.type "super") := (hmv _ (by decide +kernel)).trans (by first | boot_by_name | rfl | kernel_rfl)
  refine IO _ _ hp2 g dr _ os (hp.objs.size + 1) hp.objs.size us mb ul (I1.kIn.keeps kk) (e0.mod.glob.keeps kb) (hmb.keeps kb) bs2 (e0.mod.nolimit.keeps kb) (hr.make C us []).depth (fun b o z => old b o (I1.kIn b o z)) hget (fun h' t' od t1 k' hx hm hz => ?_)
  have all : ∀ b o, hp.get? b = some o → h'.get? b = some o := fun b o z => k' b o (old b o z) (kk b o z)
  obtain ⟨G', g1, g2⟩ := restrict h' fun b => decide (b ≠ hp.objs.size + 1)
  have gk : ∀ b, b ≠ hp.objs.size + 1 → G'.get? b = h'.get? b := fun b hb => g1 b (decide_eq_true hb)
  have ge : G'.get? (hp.objs.size + 1) = none := g2 _ (by simp)
  have oldG : ∀ b o, hp.get? b = some o → G'.get? b = some o := fun b o z => (gk b (old b o z)).trans (all b o z)
  have back : ∀ b o, G'.get? b = some o → h'.get? b = some o := fun b o z => by
    by_cases hb : b = hp.objs.size + 1
    · rw [hb, ge] at z; cases z
    · exact (gk b hb).symm.trans z
  have na : H1 (hp.objs.size + 1) = none := I1.hok.fresh (Nat.le_succ _)
  have ra := raises_own T.exC T.tyC
  by_cases hf : fls = []
  · subst hf
    have us0 : us = [] := List.length_eq_zero_iff.mp ul
    subst us0
    rcases hm with ⟨rfl, _⟩ | ⟨dx, nl, rfl, d1, d2, d3, d4, d5⟩
    · have J : Inv X pins σ H1 ⟨G', g, dr, t', os⟩ := I1.kept (t' := t') oldG
      exact ⟨rfl, hp.objs.size + 1, _, _, ⟨G', g, dr, t', os⟩, H1, .ref C, none, rfl, J, back, ge, hx, ⟨rfl, rfl⟩, rfl, rfl, na, rfl, I1.bare, ra, q0 rfl⟩
    · cases hz.mpr rfl
  · rcases hm with ⟨rfl, hm⟩ | ⟨dx, nl, rfl, d1, d2, d3, d4, d5⟩
    · exact absurd (hz.mp rfl) hf
    · have dbig : hp.objs.size ≤ dx := by rw [szp] at d1; omega
      have ob : ObjOk X.prog X.w (upd H1 dx (.xd (zipX [] fls vs))) G' dx (.xd (zipX [] fls vs)) := ⟨_, d3.at (fun o q => (gk dx d2).trans q), relO_zip (acc := []) r1 fun g => True.intro⟩
      have J : Inv X pins σ (upd H1 dx (.xd (zipX [] fls vs))) ⟨G', g, dr, t', os⟩ := I1.laid (t' := t') oldG dbig ob
      exact ⟨rfl, hp.objs.size + 1, _, _, ⟨G', g, dr, t', os⟩, _, .ref C, some dx, rfl, J, back, ge, hx, ⟨rfl, rfl⟩, rfl, rfl, by rw [upd_ne (Ne.symm d2)]; exact na, rfl, I1.bare, ra, q1 hf dx (I1.hok.fresh dbig)⟩
theorem pmk_errN {e : Expr} {es : List Expr} {ta : TA} (BS : PySem.PxE.Bas B newId initId bmB) (T : OexN X.K C newId bmB) (iC : PySem.W.findIn X.K (.ref C) "__init__" = some (some (.ref fI))) (tI : PySem.W.typeIn X.K (.ref fI) = some (.type "function"))
    (IO : PySem.PxE.InitOkN X.prog X.w X.K X.mg C fI fls) (hr : Room (k + 1) X.A) (hg : Gl X x) (hm : X.mg x = some (.ref C)) (ha : PA X (e :: es) ta) (hfl : fls.length ≤ 100)
    (hdb : (x == ("__debug__" : Str)) = false := by decide) (he : starEach (e :: es) X.env = (false, eval e X.env) :: starEach es X.env := by rfl) (hpl : (backTo pos (starEach es X.env)).any (·.1) = false := by rfl) :
    PMk X (.Call (.Name x p) (e :: es) [] pos) (tMkN C fls ta) := by
  intro pins s σ H Q I h
  refine wpAny_Call_Name_kw (ld_glob I hg hm ?_ hdb)
  refine PySem.W.callWith_K (h₀ := X.base) I.ok.mod.kin T.kC (thn (ha.run pos pins s σ H _ I h) fun us s1 ⟨vs, H1, I1, r1, l1, q0, q1⟩ => ⟨I1.kIn, ?_⟩) he hpl
  exact mk_run BS T iC tI IO hr I1 r1 l1 hfl q0 q1
theorem pmk_errN0 (BS : PySem.PxE.Bas B newId initId bmB) (T : OexN X.K C newId bmB) (iC : PySem.W.findIn X.K (.ref C) "__init__" = some (some (.ref fI))) (tI : PySem.W.typeIn X.K (.ref fI) = some (.type "function"))
    (IO : PySem.PxE.InitOkN X.prog X.w X.K X.mg C fI []) (hr : Room (k + 1) X.A) (hg : Gl X x) (hm : X.mg x = some (.ref C)) (hdb : (x == ("__debug__" : Str)) = false := by decide) : PMk X (.Call (.Name x p) [] [] pos) (tMkN C [] tNil) := by
  intro pins s σ H Q I h
  obtain ⟨l1, q0, q1⟩ := h
  refine wpAny_Call_Name_kw (ld_glob I hg hm ?_ hdb)
  exact PySem.W.callWith_K0 I.kIn T.kC (mk_run (us := []) (vs := []) BS T iC tI IO hr I .nil l1 (by decide) q0 q1)
end
end L2

namespace Px
open PySem PySem.Spec PyProof.Rows L2 He
/-! ### the head's facts of own errors over any base, any fields -/
structure ErrN where
  cls : Str
  flds : List Str
  qul : Str
  par : Arguments
  bdy : List Stmt
  scp : Scope
  fil : Str
  base : String
  newId : String
  initId : String
  bmB : List Value
def ErrN.C (d : ErrN) (K : PySem.W.Frag) : Addr := ga K d.cls
def ErrN.f (d : ErrN) (K : PySem.W.Frag) : Addr := ma K (ga K d.cls) "__init__"
def ErrN.sees (K : PySem.W.Frag) (d : ErrN) : FnW := match K.lookup (d.f K) with
  | some ⟨_, _, .func fd, _⟩ => some (fd.name, fd.qualname, fd.params, fd.body, fd.scope, fd.globals, fd.closure.map (fun q => (q.1, 0)), fd.builtins)
  | _ => none
def ErrN.due (d : ErrN) : FnW := some ("__init__", d.qul, d.par, .stmts d.bdy, d.scp, mainGlobals, [("__class__", 0)], builtinsNs)
def ecN (K : PySem.W.Frag) (C : Addr) (newId : String) (bmB : List Value) : Bool := match K.lookup C with
  | some ⟨.type "type", _, .cls cd, sl⟩ => (match sl.toList with
    | [_, _, _, _, some (.builtin n), _] => decide (cd.mro = .ref C :: bmB) && (n == newId && (!cd.hasDel && cd.hasDict))
    | _ => false)
  | _ => false
theorem ecN_ok {K : PySem.W.Frag} {C : Addr} {newId : String} {bmB : List Value} (q : ecN K C newId bmB = true) : ∃ nm q N bs sn sub ab col dd k0 k1 k2 k3 k5, K.lookup C = some (excClassObj nm q C N bs bmB true sn sub ab col dd k0 k1 k2 k3 k5 newId) := by
  unfold ecN at q
  split at q
  · rename_i dd cd sl ho
    split at q
    · rename_i k0 k1 k2 k3 n k5 hs
      simp only [Bool.and_eq_true, beq_iff_eq, Bool.not_eq_true', decide_eq_true_eq] at q
      obtain ⟨hm, rfl, hdel, hdict⟩ := q
      obtain ⟨nm, bs, mro, ns, qn, hd, sn, sub, ab, col, del⟩ := cd
      dsimp only at hm hdel hdict
      subst hm hdel hdict
      have hsl : sl = #[k0, k1, k2, k3, some (.builtin n), k5] := by
        obtain ⟨l⟩ := sl
        simp only at hs
        rw [hs]
      subst hsl
      exact ⟨nm, qn, ns, bs, sn, sub, ab, col, dd, k0, k1, k2, k3, k5, ho⟩
    · cases q
  · cases q
def ErrN.good (K : PySem.W.Frag) (d : ErrN) : Bool := (Fa.glo d.cls).ok K && (ecN K (d.C K) d.newId d.bmB && (eqO (PySem.W.findIn K (.ref (d.C K)) "__setattr__") (some (some (.builtin "object.__setattr__"))) &&
  (decide (PySem.W.subIn K (.ref (d.C K)) (.type "BaseException") = some true) && (decide (PySem.W.typeIn K (.ref (d.C K)) = some (.type "type")) && (PySem.W.keepIn K (.ref (d.C K)) && (xfB K (d.C K) &&
  ((d.flds.all fun x => eqO (PySem.W.findIn K (.ref (d.C K)) x) (some none)) && (eqO (PySem.W.findIn K (.ref (d.C K)) "__init__") (some (some (.ref (d.f K)))) && (decide (PySem.W.typeIn K (.ref (d.f K)) = some (.type "function")) &&
  (decide (PySem.W.exmOne K (.ref (d.C K)) (.ref (d.C K)) = some true) && (eqO (PySem.W.nsIn K cStatics "thirdparty.any") (some none) && (decide (PySem.W.ks_superIn K (d.C K) (d.C K) "__init__" = some (some (.builtin d.initId))) &&
  (decide (PySem.W.subIn K (.ref (d.C K)) (.type d.base) = some true) && (decide (PySem.W.mroIn K (d.C K) (.ref (d.C K)) = some true) && ((eqO (PySem.W.findIn K (.ref (d.C K)) "__class__") (some (some (.builtin "object.__class__"))) &&
  (eqO (PySem.W.specialIn K (.builtin "object.__class__") "__get__") (some (some (.builtin "getset_descriptor.__get__"))) && (decide (PySem.W.takesIn K (.builtin "object.__class__") = some true) && decide (PySem.W.mroIn K (d.C K) (.type "object") = some true)))) && (match K.lookup (d.f K) with
    | some ⟨_, _, .func fd, _⟩ => PySem.W.codeIn K fd.code d.qul && (codeB K d.fil fd.code && (cellB K (d.C K) fd.closure && (decide (fd.defaults = .none) && decide (fd.kwdefaults = .none))))
    | _ => false))))))))))))))))
/-- what isinstance asks -/
structure ExcA (K : PySem.W.Frag) (C : Addr) : Prop where
  xf : XfC K C
  ha : PySem.W.findIn K (.ref C) "__class__" = some (some (.builtin "object.__class__"))
  hn : PySem.W.specialIn K (.builtin "object.__class__") "__get__" = some (some (.builtin "getset_descriptor.__get__"))
  ht : PySem.W.takesIn K (.builtin "object.__class__") = some true
  hm : PySem.W.mroIn K C (.type "object") = some true
structure ErrG (K : PySem.W.Frag) (d : ErrN) (C f : Addr) : Prop where
  glo : (Fa.glo d.cls).ok K = true
  Ce : C = ga K d.cls
  oex : OexN K C d.newId d.bmB
  ea : ExcA K C
  noF : ∀ x ∈ d.flds, PySem.W.findIn K (.ref C) x = some none
  iC : PySem.W.findIn K (.ref C) "__init__" = some (some (.ref f))
  tI : PySem.W.typeIn K (.ref f) = some (.type "function")
  te : PySem.W.exmOne K (.ref C) (.ref C) = some true
  hop : PySem.W.nsIn K cStatics "thirdparty.any" = some none
  hsup : PySem.W.ks_superIn K C C "__init__" = some (some (.builtin d.initId))
  hB : PySem.W.subIn K (.ref C) (.type d.base) = some true
  hself : PySem.W.mroIn K C (.ref C) = some true
  fn : ∃ oc od doc pm an cda ct cc osl ccl cdd ccs vs tf cl cld csl, K.lookup f = some ⟨oc, od, .func (PySem.W.ksFn "__init__" d.qul d.par d.bdy d.scp .none .none doc pm an (.ref cda) ct cc), osl⟩ ∧ PySem.W.codeIn K (.ref cda) d.qul = true ∧
    K.lookup cda = some ⟨ccl, cdd, .fields vs, ccs⟩ ∧ vs[2]? = some (.str d.fil tf) ∧ K.lookup cc = some ⟨cl, cld, .cell (some (.ref C)), csl⟩
theorem ErrN.ok {K : PySem.W.Frag} {d : ErrN} (e : d.sees K = d.due) (c : d.good K = true) : ErrG K d (d.C K) (d.f K) := by
  unfold ErrN.good at c
  obtain ⟨c0, c⟩ := ba c
  obtain ⟨c1, c⟩ := ba c
  obtain ⟨c2, c⟩ := ba c
  obtain ⟨c3, c⟩ := ba c
  obtain ⟨c4, c⟩ := ba c
  obtain ⟨c5, c⟩ := ba c
  obtain ⟨c6, c⟩ := ba c
  obtain ⟨c7, c⟩ := ba c
  obtain ⟨c8, c⟩ := ba c
  obtain ⟨c9, c⟩ := ba c
  obtain ⟨c10, c⟩ := ba c
  obtain ⟨c11, c⟩ := ba c
  obtain ⟨c12, c⟩ := ba c
  obtain ⟨c13, c⟩ := ba c
  obtain ⟨c14, c⟩ := ba c
  obtain ⟨c16, c15⟩ := ba c
  obtain ⟨b1, b⟩ := ba c16
  obtain ⟨b2, b⟩ := ba b
  obtain ⟨b3, b4⟩ := ba b
  refine ⟨c0, rfl, ⟨ecN_ok c1, eqO_ok c2, of_decide_eq_true c3, of_decide_eq_true c4, c5⟩, ⟨xfB_ok c6, eqO_ok b1, eqO_ok b2, of_decide_eq_true b3, of_decide_eq_true b4⟩, fun x hx => eqO_ok (List.all_eq_true.mp c7 x hx), eqO_ok c8, of_decide_eq_true c9, of_decide_eq_true c10, eqO_ok c11, of_decide_eq_true c12, of_decide_eq_true c13, of_decide_eq_true c14, ?_⟩
  unfold ErrN.sees ErrN.due at e
  split at e
  · rename_i oc od fd osl q
    rw [q] at c15
    obtain ⟨k1, k⟩ := ba c15
    obtain ⟨k2, k⟩ := ba k
    obtain ⟨k3, k⟩ := ba k
    obtain ⟨k4, k5⟩ := ba k
    replace k4 := of_decide_eq_true k4
    replace k5 := of_decide_eq_true k5
    obtain ⟨n1, n2, n3, n4, n5, n6, n7, n8, n9, n10, n11, n12, n13, n14, n15⟩ := fd
    simp only [Option.some.injEq, Prod.mk.injEq] at e
    obtain ⟨h1, h2, h3, h4, h5, h6, h7, h8⟩ := e
    obtain ⟨cda, ccl, cdd, vs, ccs, tf, rfl, a1, a2⟩ := codeB_ok k2
    obtain ⟨cc, cl, cld, csl, b1, b2⟩ := cellB_ok k3 h7
    dsimp only at b1 k4 k5
    subst h1 h2 h3 h4 h5 h6 h8 b1 k4 k5
    exact ⟨oc, od, n10, n11, n12, cda, n14, cc, osl, ccl, cdd, ccs, vs, tf, cl, cld, csl, q, k1, a1, a2, b2⟩
  · cases e
/-! ### the hook -/
def obsN (fs : List Fact) (ds : List DefA) (es : List ErrN) (K : PySem.W.Frag) : AlA := ((fs.all fun f => f K) && ((ds.all fun d => d.good K) && es.all fun d => d.good K), ds.map (fun d => d.sees K) ++ es.map fun d => d.sees K)
def valN (ds : List DefA) (es : List ErrN) : AlA := (true, ds.map DefA.due ++ es.map ErrN.due)
def SaysN (fs : List Fact) (ds : List DefA) (es : List ErrN) (K : PySem.W.Frag) : Prop := obsN fs ds es K = valN ds es
def obsNG (n : Nat) (fs : List Fact) (ds : List DefA) (es : List ErrN) (g : Addr → Option Obj) : AlA := obsN fs ds es (frG g (cStatics :: asX g n))
def hookN (n : Nat) (fs : List Fact) (ds : List DefA) (es : List ErrN) : PySem.W.Hook where
  α := AlA
  obs := fun s => obsNG n fs ds es s.heap.get?
  val := fun _ => valN ds es
  says := fun _ h => ∃ K : PySem.W.Frag, K.In h ∧ SaysN fs ds es K
  of := fun _ _ e => ⟨_, frG_in, e⟩
  keeps := fun _ _ _ ⟨K, hK, c⟩ k => ⟨K, PySem.W.Frag.In.keeps hK k, c⟩
theorem obsNG_eq {n : Nat} {fs : List Fact} {ds : List DefA} {es : List ErrN} {g : Addr → Option Obj} {s : Shared} (h : ∀ a, g a = s.heap.get? a) : obsNG n fs ds es g = (hookN n fs ds es).obs s := by
  have e : g = s.heap.get? := funext h
  subst e
  rfl
section
variable {fs : List Fact} {ds : List DefA} {es : List ErrN} {K : PySem.W.Frag}
theorem SaysN.fact (c : SaysN fs ds es K) (i : Nat) {f : Fact} (h : fs[i]? = some f := by rfl) : f K = true := by
  have z : ((fs.all fun f => f K) && ((ds.all fun d => d.good K) && es.all fun d => d.good K)) = true := congrArg (fun z : AlA => z.1) c
  exact List.all_eq_true.mp (ba z).1 f (List.mem_of_getElem? h)
theorem SaysN.two (c : SaysN fs ds es K) : ds.map (fun d => d.sees K) = ds.map DefA.due ∧ es.map (fun d => d.sees K) = es.map ErrN.due := by
  have e : ds.map (fun d => d.sees K) ++ es.map (fun d => d.sees K) = ds.map DefA.due ++ es.map ErrN.due := congrArg (fun z : AlA => z.2) c
  exact List.append_inj e (by rw [List.length_map, List.length_map])
theorem SaysN.def_ (c : SaysN fs ds es K) (i : Nat) {d : DefA} (h : ds[i]? = some d := by rfl) : ∃ fd, FunD K d.nme d.qul d.par d.bdy d.scp (d.dV K) (d.kV K) (d.way K) fd := by
  have z : ((fs.all fun f => f K) && ((ds.all fun d => d.good K) && es.all fun d => d.good K)) = true := congrArg (fun z : AlA => z.1) c
  have e := c.two.1
  have e2 : (ds.map fun d => d.sees K)[i]? = (ds.map DefA.due)[i]? := by rw [e]
  rw [List.getElem?_map, List.getElem?_map, h] at e2
  exact DefA.fun_ (Option.some.inj e2) (List.all_eq_true.mp (ba (ba z).2).1 d (List.mem_of_getElem? h))
theorem SaysN.err (c : SaysN fs ds es K) (i : Nat) {d : ErrN} (h : es[i]? = some d := by rfl) : ErrG K d (d.C K) (d.f K) := by
  have z : ((fs.all fun f => f K) && ((ds.all fun d => d.good K) && es.all fun d => d.good K)) = true := congrArg (fun z : AlA => z.1) c
  have e := c.two.2
  have e2 : (es.map fun d => d.sees K)[i]? = (es.map ErrN.due)[i]? := by rw [e]
  rw [List.getElem?_map, List.getElem?_map, h] at e2
  exact ErrN.ok (Option.some.inj e2) (List.all_eq_true.mp (ba (ba z).2).2 d (List.mem_of_getElem? h))
end
/-- isinstance of errors: an answer -/
def fKit (D : Str) (c : PySem.W.Frag → Value) (b : Bool) : Fact := fun K => decide (PySem.W.kitOne K (.ref (ga K D)) (c K) = some b)
theorem fKit_ok {D : Str} {c : PySem.W.Frag → Value} {b : Bool} {K : PySem.W.Frag} (h : fKit D c b K = true) : PySem.W.kitOne K (.ref (ga K D)) (c K) = some b := of_decide_eq_true h
def fExm (D C : Str) (b : Bool) : Fact := fun K => decide (PySem.W.exmOne K (.ref (ga K D)) (.ref (ga K C)) = some b)
theorem fExm_ok {D C : Str} {b : Bool} {K : PySem.W.Frag} (h : fExm D C b K = true) : PySem.W.exmOne K (.ref (ga K D)) (.ref (ga K C)) = some b := of_decide_eq_true h
/-- isinstance(e, c), e the exception that the suite holds -/
def rIsX (K : PySem.W.Frag) (a : Addr) (cls : Value) (d : Option Addr) : List V → Hp → VK → Prop := fun xs H Q => ∃ (D : Addr) (c : V) (cv : Value) (b : Bool), xs = [.ref a, c] ∧ cls = .ref D ∧ ExcA K D ∧ (d = none ∨ ∃ dd fs, d = some dd ∧ H dd = some (.xd fs)) ∧ ClsV c cv ∧ PySem.W.kitOne K (.ref D) cv = some b ∧ Q (.bl b) H
theorem call_isX {X : Cx} {a : Addr} {cls : Value} {d : Option Addr} {oe : Obj} {pn : List (Addr × Obj)} (hz : Zc cls d oe) (hf : ∃ vs, oe.data = .fields vs) : CallR (X.suite a ((a, oe) :: pn)) (.builtin "isinstance") (rIsX X.K a cls d) := by
  intro pins s σ H xs us Q I r h
  obtain ⟨D, c, cv, b, rfl, rfl, C, hd, hcv, e, q⟩ := h
  obtain ⟨u1, u2, rfl, r1, r2⟩ := vals2 r
  obtain rfl : u1 = Value.ref a := r1
  have ec := hcv.eq r2
  subst ec
  obtain ⟨hget, _⟩ := I.pin (a, oe) (List.mem_append.mpr (.inl List.mem_cons_self))
  obtain ⟨vs, hv⟩ := hf
  have J : ∃ od, PySem.W.InstAt s.heap a oe D od := by
    rcases hd with rfl | ⟨dd, fs, rfl, hdd⟩
    · exact ⟨none, hget, hz.1, by unfold PySem.W.notCls; rw [hv] <;> rfl, by rw [hz.2]; trivial⟩
    · have hx : ObjOk X.prog X.w H s.heap dd (.xd fs) := I.hok dd _ hdd
      obtain ⟨mA, hns, hr⟩ := hx
      obtain ⟨od, ho, hl⟩ := lookIn_ns hns
      exact ⟨some od, hget, hz.1, by unfold PySem.W.notCls; rw [hv] <;> rfl, by rw [hz.2]; exact ho⟩
  obtain ⟨od, J⟩ := J
  have hcl : (PySem.W.clsIn X.K D).isSome = true := by
    have := C.xf.hdC
    unfold PySem.W.hasDictIn at this
    cases z : PySem.W.clsIn X.K D with
    | none => rw [z] at this; cases this
    | some _ => rfl
  exact PySem.W.kia_one (PySem.W.kitx_exc hcl C.xf.ga C.xf.gg C.xf.exC C.ha C.hn C.ht C.hm) I.kIn J e (fun z => nomatch z) fun tk => ⟨.bl b, H, I.kept (t' := tk) fun _ _ z => z, rfl, q⟩
end Px

namespace Px
open PySem PySem.Spec PyProof.Rows L2 He
/-! ### what is looked at, chosen: no duplicates are sought, classes are not walked along their mro -/
def dictRefs (g : Addr → Option Obj) (a : Addr) : List Addr := match g a with
  | some ⟨_, _, .dict es _, _⟩ => es.toList.flatMap fun e => refV e.val
  | _ => []
def funRefs (g : Addr → Option Obj) (a : Addr) : List Addr := match g a with
  | some ⟨_, _, .func fd, _⟩ => refV fd.code ++ refV fd.kwdefaults ++ refV fd.defaults ++ fd.closure.map (·.2)
  | _ => []
def topRefs (g : Addr → Option Obj) (a : Addr) : List Addr := match g a with
  | some ⟨_, _, .func fd, _⟩ => refV fd.code ++ refV fd.kwdefaults ++ refV fd.defaults ++ fd.closure.map (·.2)
  | some ⟨_, _, .cls cd, _⟩ => [cd.ns]
  | _ => []
def memRefs (g : Addr → Option Obj) (a : Addr) : List Addr := match g a with
  | some ⟨_, _, .func fd, _⟩ => refV fd.code ++ refV fd.kwdefaults ++ refV fd.defaults ++ fd.closure.map (·.2)
  | some ⟨_, _, .fields vs, _⟩ => vs.toList.flatMap refV
  | _ => []
def as1 (g : Addr → Option Obj) : List Addr := dictRefs g mainGlobals
def as2 (g : Addr → Option Obj) : List Addr := (as1 g).flatMap (topRefs g)
def as3 (g : Addr → Option Obj) : List Addr := (as2 g).flatMap (dictRefs g)
def as4 (g : Addr → Option Obj) : List Addr := (as3 g).flatMap (memRefs g)
def as5 (g : Addr → Option Obj) : List Addr := (as4 g).flatMap (funRefs g)
def asT (g : Addr → Option Obj) : List Addr := cStatics :: mainGlobals :: (as1 g ++ (as2 g ++ (as3 g ++ (as4 g ++ as5 g))))
def obsATG (fs : List Fact) (ds : List DefA) (g : Addr → Option Obj) : AlA := obsA fs ds (frG g (asT g))
def hookAT (fs : List Fact) (ds : List DefA) : PySem.W.Hook where
  α := AlA
  obs := fun s => obsATG fs ds s.heap.get?
  val := fun _ => valA ds
  says := fun _ h => ∃ K : PySem.W.Frag, K.In h ∧ SaysA fs ds K
  of := fun _ _ e => ⟨_, frG_in, e⟩
  keeps := fun _ _ _ ⟨K, hK, c⟩ k => ⟨K, PySem.W.Frag.In.keeps hK k, c⟩
theorem obsATG_eq {fs : List Fact} {ds : List DefA} {g : Addr → Option Obj} {s : Shared} (h : ∀ a, g a = s.heap.get? a) : obsATG fs ds g = (hookAT fs ds).obs s := by
  have e : g = s.heap.get? := funext h
  subst e
  rfl
def obsNTG (fs : List Fact) (ds : List DefA) (es : List ErrN) (g : Addr → Option Obj) : AlA := obsN fs ds es (frG g (asT g))
def hookNT (fs : List Fact) (ds : List DefA) (es : List ErrN) : PySem.W.Hook where
  α := AlA
  obs := fun s => obsNTG fs ds es s.heap.get?
  val := fun _ => valN ds es
  says := fun _ h => ∃ K : PySem.W.Frag, K.In h ∧ SaysN fs ds es K
  of := fun _ _ e => ⟨_, frG_in, e⟩
  keeps := fun _ _ _ ⟨K, hK, c⟩ k => ⟨K, PySem.W.Frag.In.keeps hK k, c⟩
theorem obsNTG_eq {fs : List Fact} {ds : List DefA} {es : List ErrN} {g : Addr → Option Obj} {s : Shared} (h : ∀ a, g a = s.heap.get? a) : obsNTG fs ds es g = (hookNT fs ds es).obs s := by
  have e : g = s.heap.get? := funext h
  subst e
  rfl
end Px

namespace Px
open PySem PySem.Spec PyProof.Rows L2
def topS (i : Nat) : Stmt := PySem.Challenge.pw_piecetexts_k19_right_texts_told.main.body.getD i (.Pass ⟨0, 0, 0, 0⟩)
abbrev s_is_integer : Stmt := topS 12
theorem sc_is_integer : FnScope ["value"] ["value"] (defScope s_is_integer) := ⟨rfl, rfl, rfl, by decide +kernel, rfl, by decide +kernel, by decide +kernel⟩
abbrev s_is_within : Stmt := topS 13
theorem sc_is_within : FnScope ["value", "low", "high"] ["value", "low", "high"] (defScope s_is_within) := ⟨rfl, rfl, rfl, by decide +kernel, rfl, by decide +kernel, by decide +kernel⟩
abbrev s_is_sign : Stmt := topS 14
theorem sc_is_sign : FnScope ["value"] ["value"] (defScope s_is_sign) := ⟨rfl, rfl, rfl, by decide +kernel, rfl, by decide +kernel, by decide +kernel⟩
abbrev s_are_signs : Stmt := topS 15
theorem sc_are_signs : FnScope ["value", "character"] ["value"] (defScope s_are_signs) := ⟨rfl, rfl, rfl, by decide +kernel, rfl, by decide +kernel, by decide +kernel⟩
abbrev s_are_characters : Stmt := topS 16
theorem sc_are_characters : FnScope ["value", "character"] ["value"] (defScope s_are_characters) := ⟨rfl, rfl, rfl, by decide +kernel, rfl, by decide +kernel, by decide +kernel⟩
abbrev s_check_text : Stmt := topS 17
theorem sc_check_text : FnScope ["value", "index", "character"] ["value"] (defScope s_check_text) := ⟨rfl, rfl, rfl, by decide +kernel, rfl, by decide +kernel, by decide +kernel⟩
abbrev s_other_case : Stmt := topS 18
theorem sc_other_case : FnScope ["letter"] ["letter"] (defScope s_other_case) := ⟨rfl, rfl, rfl, by decide +kernel, rfl, by decide +kernel, by decide +kernel⟩
abbrev s_is_option : Stmt := topS 26
theorem sc_is_option : FnScope ["name", "value"] ["name", "value"] (defScope s_is_option) := ⟨rfl, rfl, rfl, by decide +kernel, rfl, by decide +kernel, by decide +kernel⟩
abbrev s_Rules___init__ : Stmt := inClass (topS 27) 0
theorem sc_Rules___init__ : FnScope ["self", "pads", "skip", "lines", "loose", "fold", "name"] ["self", "pads", "skip", "lines", "loose", "fold"] (defScope s_Rules___init__) := ⟨rfl, rfl, rfl, by decide +kernel, rfl, by decide +kernel, by decide +kernel⟩
abbrev s_Rules_pads : Stmt := inClass (topS 27) 4
theorem sc_Rules_pads : FnScope ["self"] ["self"] (defScope s_Rules_pads) := ⟨rfl, rfl, rfl, by decide +kernel, rfl, by decide +kernel, by decide +kernel⟩
abbrev s_Rules_skip : Stmt := inClass (topS 27) 5
theorem sc_Rules_skip : FnScope ["self"] ["self"] (defScope s_Rules_skip) := ⟨rfl, rfl, rfl, by decide +kernel, rfl, by decide +kernel, by decide +kernel⟩
abbrev s_Rules_lines : Stmt := inClass (topS 27) 6
theorem sc_Rules_lines : FnScope ["self"] ["self"] (defScope s_Rules_lines) := ⟨rfl, rfl, rfl, by decide +kernel, rfl, by decide +kernel, by decide +kernel⟩
abbrev s_Rules_loose : Stmt := inClass (topS 27) 7
theorem sc_Rules_loose : FnScope ["self"] ["self"] (defScope s_Rules_loose) := ⟨rfl, rfl, rfl, by decide +kernel, rfl, by decide +kernel, by decide +kernel⟩
abbrev s_Rules_fold : Stmt := inClass (topS 27) 8
theorem sc_Rules_fold : FnScope ["self"] ["self"] (defScope s_Rules_fold) := ⟨rfl, rfl, rfl, by decide +kernel, rfl, by decide +kernel, by decide +kernel⟩
abbrev s_Code_signs : Stmt := inClass (topS 35) 9
theorem sc_Code_signs : FnScope ["self"] ["self"] (defScope s_Code_signs) := ⟨rfl, rfl, rfl, by decide +kernel, rfl, by decide +kernel, by decide +kernel⟩
abbrev s_Code_pad : Stmt := inClass (topS 35) 10
theorem sc_Code_pad : FnScope ["self"] ["self"] (defScope s_Code_pad) := ⟨rfl, rfl, rfl, by decide +kernel, rfl, by decide +kernel, by decide +kernel⟩
abbrev s_Code_width : Stmt := inClass (topS 35) 11
theorem sc_Code_width : FnScope ["self"] ["self"] (defScope s_Code_width) := ⟨rfl, rfl, rfl, by decide +kernel, rfl, by decide +kernel, by decide +kernel⟩
abbrev s_Code_bits : Stmt := inClass (topS 35) 12
theorem sc_Code_bits : FnScope ["self"] ["self"] (defScope s_Code_bits) := ⟨rfl, rfl, rfl, by decide +kernel, rfl, by decide +kernel, by decide +kernel⟩
abbrev s_Code_group : Stmt := inClass (topS 35) 13
theorem sc_Code_group : FnScope ["self"] ["self"] (defScope s_Code_group) := ⟨rfl, rfl, rfl, by decide +kernel, rfl, by decide +kernel, by decide +kernel⟩
abbrev s_Code___contains__ : Stmt := inClass (topS 35) 6
theorem sc_Code___contains__ : FnScope ["self", "value"] ["self", "value"] (defScope s_Code___contains__) := ⟨rfl, rfl, rfl, by decide +kernel, rfl, by decide +kernel, by decide +kernel⟩
abbrev s_Code___init__ : Stmt := inClass (topS 35) 1
theorem sc_Code___init__ : FnScope ["self", "signs", "pad", "width", "digit", "sign"] ["self", "signs", "pad", "width"] (defScope s_Code___init__) := ⟨rfl, rfl, rfl, by decide +kernel, rfl, by decide +kernel, by decide +kernel⟩
abbrev s_Code_has_rows : Stmt := inClass (topS 35) 23
theorem sc_Code_has_rows : FnScope ["self", "rules"] ["self", "rules"] (defScope s_Code_has_rows) := ⟨rfl, rfl, rfl, by decide +kernel, rfl, by decide +kernel, by decide +kernel⟩
abbrev s_Code_is_foreign : Stmt := inClass (topS 35) 22
theorem sc_Code_is_foreign : FnScope ["self", "rules", "character"] ["self", "rules", "character"] (defScope s_Code_is_foreign) := ⟨rfl, rfl, rfl, by decide +kernel, rfl, by decide +kernel, by decide +kernel⟩
abbrev s_Code_suits : Stmt := inClass (topS 35) 21
theorem sc_Code_suits : FnScope ["self", "rules", "character"] ["self", "rules"] (defScope s_Code_suits) := ⟨rfl, rfl, rfl, by decide +kernel, rfl, by decide +kernel, by decide +kernel⟩
abbrev s_Code_is_full : Stmt := inClass (topS 35) 16
theorem sc_Code_is_full : FnScope ["self", "column"] ["self", "column"] (defScope s_Code_is_full) := ⟨rfl, rfl, rfl, by decide +kernel, rfl, by decide +kernel, by decide +kernel⟩
abbrev s_Code_next_column : Stmt := inClass (topS 35) 17
theorem sc_Code_next_column : FnScope ["self", "column"] ["self", "column"] (defScope s_Code_next_column) := ⟨rfl, rfl, rfl, by decide +kernel, rfl, by decide +kernel, by decide +kernel⟩
abbrev s_Code_read_digit : Stmt := inClass (topS 35) 24
theorem sc_Code_read_digit : FnScope ["self", "rules", "character", "digit"] ["self", "rules", "character"] (defScope s_Code_read_digit) := ⟨rfl, rfl, rfl, by decide +kernel, rfl, by decide +kernel, by decide +kernel⟩
abbrev s_Code_opening : Stmt := inClass (topS 35) 27
theorem sc_Code_opening : FnScope ["self"] ["self"] (defScope s_Code_opening) := ⟨rfl, rfl, rfl, by decide +kernel, rfl, by decide +kernel, by decide +kernel⟩
abbrev s_Code_is_whole : Stmt := inClass (topS 35) 28
theorem sc_Code_is_whole : FnScope ["self", "rules", "bits"] ["self", "rules", "bits"] (defScope s_Code_is_whole) := ⟨rfl, rfl, rfl, by decide +kernel, rfl, by decide +kernel, by decide +kernel⟩
abbrev s_Code_missing_pads : Stmt := inClass (topS 35) 29
theorem sc_Code_missing_pads : FnScope ["self", "state"] ["self", "state"] (defScope s_Code_missing_pads) := ⟨rfl, rfl, rfl, by decide +kernel, rfl, by decide +kernel, by decide +kernel⟩
abbrev s_Code_may_pad : Stmt := inClass (topS 35) 30
theorem sc_Code_may_pad : FnScope ["self", "rules", "state"] ["self", "rules", "state"] (defScope s_Code_may_pad) := ⟨rfl, rfl, rfl, by decide +kernel, rfl, by decide +kernel, by decide +kernel⟩
abbrev s_Code_may_end : Stmt := inClass (topS 35) 31
theorem sc_Code_may_end : FnScope ["self", "rules", "state", "bits", "signs", "column", "pads", "broken"] ["self", "rules", "state"] (defScope s_Code_may_end) := ⟨rfl, rfl, rfl, by decide +kernel, rfl, by decide +kernel, by decide +kernel⟩
abbrev s_Code_take : Stmt := inClass (topS 35) 32
theorem sc_Code_take : FnScope ["self", "rules", "state", "character", "bits", "signs", "column", "pads", "broken", "is_full", "may_go_on", "digit", "found"] ["self", "rules", "state", "character"] (defScope s_Code_take) := ⟨rfl, rfl, rfl, by decide +kernel, rfl, by decide +kernel, by decide +kernel⟩
abbrev s_Machine_whole_data : Stmt := inClass (topS 29) 4
theorem sc_Machine_whole_data : FnScope ["self", "rules", "text", "data", "state", "character", "found", "more"] ["self", "rules", "text"] (defScope s_Machine_whole_data) := ⟨rfl, rfl, rfl, by decide +kernel, rfl, by decide +kernel, by decide +kernel⟩
abbrev s_Rules_suit : Stmt := inClass (topS 27) 9
theorem sc_Rules_suit : FnScope ["self", "code"] ["self", "code"] (defScope s_Rules_suit) := ⟨rfl, rfl, rfl, by decide +kernel, rfl, by decide +kernel, by decide +kernel⟩
abbrev s_Machine_usual : Stmt := inClass (topS 29) 0
theorem sc_Machine_usual : FnScope ["self"] ["self"] (defScope s_Machine_usual) := ⟨rfl, rfl, rfl, by decide +kernel, rfl, by decide +kernel, by decide +kernel⟩
abbrev s_rules_for : Stmt := topS 20
theorem sc_rules_for : FnScope ["code", "rules", "found"] ["code", "rules"] (defScope s_rules_for) := ⟨rfl, rfl, rfl, by decide +kernel, rfl, by decide +kernel, by decide +kernel⟩
abbrev s_is_right : Stmt := topS 21
theorem sc_is_right : FnScope ["code", "text", "rules", "own"] ["code", "text", "rules"] (defScope s_is_right) := ⟨rfl, rfl, rfl, by decide +kernel, rfl, by decide +kernel, by decide +kernel⟩
abbrev s_l_bag : Stmt := topS 37
theorem sc_l_bag : FnScope ["_law_script", "_law_at", "_law_cell", "_law_digits_here"] ["_law_script", "_law_at"] (defScope s_l_bag) := ⟨rfl, rfl, rfl, by decide +kernel, rfl, by decide +kernel, by decide +kernel⟩
abbrev s_l_take : Stmt := topS 38
theorem sc_l_take : FnScope ["_law_bag_here", "_law_many", "_law_digit_here", "_law_mixed"] ["_law_bag_here", "_law_many"] (defScope s_l_take) := ⟨rfl, rfl, rfl, by decide +kernel, rfl, by decide +kernel, by decide +kernel⟩
abbrev s_l_of : Stmt := topS 39
theorem sc_l_of : FnScope ["_law_bag_here", "_law_some"] ["_law_bag_here", "_law_some"] (defScope s_l_of) := ⟨rfl, rfl, rfl, by decide +kernel, rfl, by decide +kernel, by decide +kernel⟩
abbrev s_l_all_signs : Stmt := topS 40
theorem sc_l_all_signs : FnScope ["_law_capitals"] [] (defScope s_l_all_signs) := ⟨rfl, rfl, rfl, by decide +kernel, rfl, by decide +kernel, by decide +kernel⟩
abbrev s_l_code : Stmt := topS 41
theorem sc_l_code : FnScope ["_law_bag_here", "_law_some", "_law_many", "_law_first", "_law_pace", "_law_row", "_law_room", "_law_k"] ["_law_bag_here"] (defScope s_l_code) := ⟨rfl, rfl, rfl, by decide +kernel, rfl, by decide +kernel, by decide +kernel⟩
abbrev s_l_made : Stmt := topS 42
theorem sc_l_made : FnScope ["_law_code_here"] ["_law_code_here"] (defScope s_l_made) := ⟨rfl, rfl, rfl, by decide +kernel, rfl, by decide +kernel, by decide +kernel⟩
abbrev s_l_size : Stmt := topS 43
theorem sc_l_size : FnScope ["_law_code_here"] ["_law_code_here"] (defScope s_l_size) := ⟨rfl, rfl, rfl, by decide +kernel, rfl, by decide +kernel, by decide +kernel⟩
abbrev s_l_group : Stmt := topS 44
theorem sc_l_group : FnScope ["_law_code_here"] ["_law_code_here"] (defScope s_l_group) := ⟨rfl, rfl, rfl, by decide +kernel, rfl, by decide +kernel, by decide +kernel⟩
abbrev s_l_data : Stmt := topS 45
theorem sc_l_data : FnScope ["_law_bag_here", "_law_most", "_law_few", "_law_many", "_law_k"] ["_law_bag_here", "_law_most"] (defScope s_l_data) := ⟨rfl, rfl, rfl, by decide +kernel, rfl, by decide +kernel, by decide +kernel⟩
abbrev s_l_bits : Stmt := topS 46
theorem sc_l_bits : FnScope ["_law_data_here", "_law_found", "_law_byte", "_law_worth"] ["_law_data_here"] (defScope s_l_bits) := ⟨rfl, rfl, rfl, by decide +kernel, rfl, by decide +kernel, by decide +kernel⟩
abbrev s_l_number : Stmt := topS 47
theorem sc_l_number : FnScope ["_law_bits_here", "_law_total", "_law_bit"] ["_law_bits_here"] (defScope s_l_number) := ⟨rfl, rfl, rfl, by decide +kernel, rfl, by decide +kernel, by decide +kernel⟩
abbrev s_l_digits : Stmt := topS 48
theorem sc_l_digits : FnScope ["_law_code_here", "_law_data_here", "_law_bits_here", "_law_size_here", "_law_at"] ["_law_code_here", "_law_data_here"] (defScope s_l_digits) := ⟨rfl, rfl, rfl, by decide +kernel, rfl, by decide +kernel, by decide +kernel⟩
abbrev s_l_rows : Stmt := topS 49
theorem sc_l_rows : FnScope ["_law_code_here", "_law_row", "_law_at"] ["_law_code_here", "_law_row"] (defScope s_l_rows) := ⟨rfl, rfl, rfl, by decide +kernel, rfl, by decide +kernel, by decide +kernel⟩
abbrev s_l_other : Stmt := topS 50
theorem sc_l_other : FnScope ["_law_letter"] ["_law_letter"] (defScope s_l_other) := ⟨rfl, rfl, rfl, by decide +kernel, rfl, by decide +kernel, by decide +kernel⟩
abbrev s_l_ruled : Stmt := topS 51
theorem sc_l_ruled : FnScope ["_law_bag_here", "_law_code_here", "_law_rows_here", "_law_free", "_law_both", "_law_left", "_law_found", "_law_k", "_law_one"] ["_law_bag_here", "_law_code_here"] (defScope s_l_ruled) := ⟨rfl, rfl, rfl, by decide +kernel, rfl, by decide +kernel, by decide +kernel⟩
abbrev s_l_made_rules : Stmt := topS 52
theorem sc_l_made_rules : FnScope ["_law_ruled_here"] ["_law_ruled_here"] (defScope s_l_made_rules) := ⟨rfl, rfl, rfl, by decide +kernel, rfl, by decide +kernel, by decide +kernel⟩
abbrev s_l_digit : Stmt := topS 53
theorem sc_l_digit : FnScope ["_law_code_here", "_law_ruled_here", "_law_one", "_law_both"] ["_law_code_here", "_law_ruled_here", "_law_one"] (defScope s_l_digit) := ⟨rfl, rfl, rfl, by decide +kernel, rfl, by decide +kernel, by decide +kernel⟩
abbrev s_l_spelt : Stmt := topS 54
theorem sc_l_spelt : FnScope ["_law_bag_here", "_law_code_here", "_law_ruled_here", "_law_data_here", "_law_digits_here", "_law_size_here", "_law_spare", "_law_row", "_law_both", "_law_at", "_law_due", "_law_many", "_law_digit_here", "_law_one"] ["_law_bag_here", "_law_code_here", "_law_ruled_here", "_law_data_here"] (defScope s_l_spelt) := ⟨rfl, rfl, rfl, by decide +kernel, rfl, by decide +kernel, by decide +kernel⟩
abbrev s_l_noisy : Stmt := topS 55
theorem sc_l_noisy : FnScope ["_law_bag_here", "_law_ruled_here", "_law_text", "_law_found", "_law_one"] ["_law_bag_here", "_law_ruled_here", "_law_text"] (defScope s_l_noisy) := ⟨rfl, rfl, rfl, by decide +kernel, rfl, by decide +kernel, by decide +kernel⟩
abbrev s_l_right_text : Stmt := topS 56
theorem sc_l_right_text : FnScope ["_law_bag_here", "_law_code_here", "_law_ruled_here", "_law_data_here", "_law_row"] ["_law_bag_here", "_law_code_here", "_law_ruled_here", "_law_data_here"] (defScope s_l_right_text) := ⟨rfl, rfl, rfl, by decide +kernel, rfl, by decide +kernel, by decide +kernel⟩
abbrev s_l_kind : Stmt := topS 57
theorem sc_l_kind : FnScope ["_law_code_here", "_law_ruled_here", "_law_one"] ["_law_code_here", "_law_ruled_here", "_law_one"] (defScope s_l_kind) := ⟨rfl, rfl, rfl, by decide +kernel, rfl, by decide +kernel, by decide +kernel⟩
abbrev s_l_is_whole : Stmt := topS 58
theorem sc_l_is_whole : FnScope ["_law_code_here", "_law_ruled_here", "_law_bits_here", "_law_left"] ["_law_code_here", "_law_ruled_here", "_law_bits_here"] (defScope s_l_is_whole) := ⟨rfl, rfl, rfl, by decide +kernel, rfl, by decide +kernel, by decide +kernel⟩
abbrev s_l_may_pad : Stmt := topS 59
theorem sc_l_may_pad : FnScope ["_law_code_here", "_law_ruled_here", "_law_bits_here", "_law_signs", "_law_ends"] ["_law_code_here", "_law_ruled_here", "_law_bits_here", "_law_signs", "_law_ends"] (defScope s_l_may_pad) := ⟨rfl, rfl, rfl, by decide +kernel, rfl, by decide +kernel, by decide +kernel⟩
abbrev s_l_may_end : Stmt := topS 60
theorem sc_l_may_end : FnScope ["_law_code_here", "_law_ruled_here", "_law_bits_here", "_law_signs", "_law_ends", "_law_due"] ["_law_code_here", "_law_ruled_here", "_law_bits_here", "_law_signs", "_law_ends"] (defScope s_l_may_end) := ⟨rfl, rfl, rfl, by decide +kernel, rfl, by decide +kernel, by decide +kernel⟩
abbrev s_l_read : Stmt := topS 61
theorem sc_l_read : FnScope ["_law_code_here", "_law_ruled_here", "_law_text", "_law_bits_here", "_law_signs", "_law_ends", "_law_column", "_law_broken", "_law_at", "_law_one", "_law_full", "_law_digit_here", "_law_may_pad_here", "_law_good"] ["_law_code_here", "_law_ruled_here", "_law_text"] (defScope s_l_read) := ⟨rfl, rfl, rfl, by decide +kernel, rfl, by decide +kernel, by decide +kernel⟩
abbrev s_l_bent : Stmt := topS 62
theorem sc_l_bent : FnScope ["_law_bag_here", "_law_code_here", "_law_ruled_here", "_law_text", "_law_both", "_law_near", "_law_spot", "_law_one", "_law_way"] ["_law_bag_here", "_law_code_here", "_law_ruled_here", "_law_text"] (defScope s_l_bent) := ⟨rfl, rfl, rfl, by decide +kernel, rfl, by decide +kernel, by decide +kernel⟩
abbrev s_l_right : Stmt := topS 63
theorem sc_l_right : FnScope ["_law_real", "_law_own", "_law_code_here", "_law_ruled_here", "_law_text"] ["_law_real", "_law_own", "_law_code_here", "_law_ruled_here", "_law_text"] (defScope s_l_right) := ⟨rfl, rfl, rfl, by decide +kernel, rfl, by decide +kernel, by decide +kernel⟩
abbrev s_law : Stmt := topS 64
theorem sc_law : FnScope ["_law_script", "_law_at", "_law_bag_here", "_law_turn", "_law_code_here", "_law_some", "_law_ruled_here", "_law_real", "_law_own", "_law_text", "_law_more", "_law_odd", "_law_one"] ["_law_script"] (defScope s_law) := ⟨rfl, rfl, rfl, by decide +kernel, rfl, by decide +kernel, by decide +kernel⟩
def P : Program := PySem.Challenge.pw_piecetexts_k19_right_texts_told
theorem P_eq : P = PySem.Challenge.rw_piecetexts_k19_right_texts_told.prog := by kernel_rfl
theorem P_file : ((P.main.file : Str) == ("/claim/cut.py" : Str)) = true := by decide +kernel
theorem P_top : (P.main.scope.names.lookup ("super" : Str)).isSome = false := by decide +kernel
abbrev se_NoCharacter : Stmt := inClass (topS 4) 0
def eN_NoCharacter : ErrN := ⟨"NoCharacter", ["index"], "NoCharacter.__init__", defArgs se_NoCharacter, defBody se_NoCharacter, defScope se_NoCharacter, "/claim/cut.py", "ValueError", "ValueError.__new__", "ValueError.__init__", [.type "ValueError", .type "Exception", .type "BaseException", .type "object"]⟩
def d_is_integer : DefA := ⟨wGlo "is_integer", "is_integer", "is_integer", defArgs s_is_integer, defBody s_is_integer, defScope s_is_integer, [], []⟩
def d_is_within : DefA := ⟨wGlo "is_within", "is_within", "is_within", defArgs s_is_within, defBody s_is_within, defScope s_is_within, [], []⟩
def d_is_sign : DefA := ⟨wGlo "is_sign", "is_sign", "is_sign", defArgs s_is_sign, defBody s_is_sign, defScope s_is_sign, [], []⟩
def d_are_signs : DefA := ⟨wGlo "are_signs", "are_signs", "are_signs", defArgs s_are_signs, defBody s_are_signs, defScope s_are_signs, [], []⟩
def d_are_characters : DefA := ⟨wGlo "are_characters", "are_characters", "are_characters", defArgs s_are_characters, defBody s_are_characters, defScope s_are_characters, [], []⟩
def d_check_text : DefA := ⟨wGlo "check_text", "check_text", "check_text", defArgs s_check_text, defBody s_check_text, defScope s_check_text, [], []⟩
def d_other_case : DefA := ⟨wGlo "other_case", "other_case", "other_case", defArgs s_other_case, defBody s_other_case, defScope s_other_case, [], []⟩
def d_is_option : DefA := ⟨wGlo "is_option", "is_option", "is_option", defArgs s_is_option, defBody s_is_option, defScope s_is_option, [], []⟩
def d_Rules___init__ : DefA := ⟨wMeth "Rules" "__init__", "__init__", "Rules.__init__", defArgs s_Rules___init__, defBody s_Rules___init__, defScope s_Rules___init__, [], [("pads", .str "full"), ("skip", .str ""), ("lines", .bl true), ("loose", .bl false), ("fold", .bl false)]⟩
def d_Rules_pads : DefA := ⟨wGet "Rules" "pads", "pads", "Rules.pads", defArgs s_Rules_pads, defBody s_Rules_pads, defScope s_Rules_pads, [], []⟩
def d_Rules_skip : DefA := ⟨wGet "Rules" "skip", "skip", "Rules.skip", defArgs s_Rules_skip, defBody s_Rules_skip, defScope s_Rules_skip, [], []⟩
def d_Rules_lines : DefA := ⟨wGet "Rules" "lines", "lines", "Rules.lines", defArgs s_Rules_lines, defBody s_Rules_lines, defScope s_Rules_lines, [], []⟩
def d_Rules_loose : DefA := ⟨wGet "Rules" "loose", "loose", "Rules.loose", defArgs s_Rules_loose, defBody s_Rules_loose, defScope s_Rules_loose, [], []⟩
def d_Rules_fold : DefA := ⟨wGet "Rules" "fold", "fold", "Rules.fold", defArgs s_Rules_fold, defBody s_Rules_fold, defScope s_Rules_fold, [], []⟩
def d_Code_signs : DefA := ⟨wGet "Code" "signs", "signs", "Code.signs", defArgs s_Code_signs, defBody s_Code_signs, defScope s_Code_signs, [], []⟩
def d_Code_pad : DefA := ⟨wGet "Code" "pad", "pad", "Code.pad", defArgs s_Code_pad, defBody s_Code_pad, defScope s_Code_pad, [], []⟩
def d_Code_width : DefA := ⟨wGet "Code" "width", "width", "Code.width", defArgs s_Code_width, defBody s_Code_width, defScope s_Code_width, [], []⟩
def d_Code_bits : DefA := ⟨wGet "Code" "bits", "bits", "Code.bits", defArgs s_Code_bits, defBody s_Code_bits, defScope s_Code_bits, [], []⟩
def d_Code_group : DefA := ⟨wGet "Code" "group", "group", "Code.group", defArgs s_Code_group, defBody s_Code_group, defScope s_Code_group, [], []⟩
def d_Code___contains__ : DefA := ⟨wMeth "Code" "__contains__", "__contains__", "Code.__contains__", defArgs s_Code___contains__, defBody s_Code___contains__, defScope s_Code___contains__, [], []⟩
def d_Code___init__ : DefA := ⟨wMeth "Code" "__init__", "__init__", "Code.__init__", defArgs s_Code___init__, defBody s_Code___init__, defScope s_Code___init__, [], [("pad", .str ""), ("width", .int 0)]⟩
def d_Code_has_rows : DefA := ⟨wMeth "Code" "has_rows", "has_rows", "Code.has_rows", defArgs s_Code_has_rows, defBody s_Code_has_rows, defScope s_Code_has_rows, [], []⟩
def d_Code_is_foreign : DefA := ⟨wMeth "Code" "is_foreign", "is_foreign", "Code.is_foreign", defArgs s_Code_is_foreign, defBody s_Code_is_foreign, defScope s_Code_is_foreign, [], []⟩
def d_Code_suits : DefA := ⟨wMeth "Code" "suits", "suits", "Code.suits", defArgs s_Code_suits, defBody s_Code_suits, defScope s_Code_suits, [], []⟩
def d_Code_is_full : DefA := ⟨wMeth "Code" "is_full", "is_full", "Code.is_full", defArgs s_Code_is_full, defBody s_Code_is_full, defScope s_Code_is_full, [], []⟩
def d_Code_next_column : DefA := ⟨wMeth "Code" "next_column", "next_column", "Code.next_column", defArgs s_Code_next_column, defBody s_Code_next_column, defScope s_Code_next_column, [], []⟩
def d_Code_read_digit : DefA := ⟨wMeth "Code" "read_digit", "read_digit", "Code.read_digit", defArgs s_Code_read_digit, defBody s_Code_read_digit, defScope s_Code_read_digit, [], []⟩
def d_Code_opening : DefA := ⟨wMeth "Code" "opening", "opening", "Code.opening", defArgs s_Code_opening, defBody s_Code_opening, defScope s_Code_opening, [], []⟩
def d_Code_is_whole : DefA := ⟨wMeth "Code" "is_whole", "is_whole", "Code.is_whole", defArgs s_Code_is_whole, defBody s_Code_is_whole, defScope s_Code_is_whole, [], []⟩
def d_Code_missing_pads : DefA := ⟨wMeth "Code" "missing_pads", "missing_pads", "Code.missing_pads", defArgs s_Code_missing_pads, defBody s_Code_missing_pads, defScope s_Code_missing_pads, [], []⟩
def d_Code_may_pad : DefA := ⟨wMeth "Code" "may_pad", "may_pad", "Code.may_pad", defArgs s_Code_may_pad, defBody s_Code_may_pad, defScope s_Code_may_pad, [], []⟩
def d_Code_may_end : DefA := ⟨wMeth "Code" "may_end", "may_end", "Code.may_end", defArgs s_Code_may_end, defBody s_Code_may_end, defScope s_Code_may_end, [], []⟩
def d_Code_take : DefA := ⟨wMeth "Code" "take", "take", "Code.take", defArgs s_Code_take, defBody s_Code_take, defScope s_Code_take, [], []⟩
def d_Machine_whole_data : DefA := ⟨wMeth "Code" "whole_data", "whole_data", "Machine.whole_data", defArgs s_Machine_whole_data, defBody s_Machine_whole_data, defScope s_Machine_whole_data, [], []⟩
def d_Rules_suit : DefA := ⟨wMeth "Rules" "suit", "suit", "Rules.suit", defArgs s_Rules_suit, defBody s_Rules_suit, defScope s_Rules_suit, [], []⟩
def d_Machine_usual : DefA := ⟨wMeth "Code" "usual", "usual", "Machine.usual", defArgs s_Machine_usual, defBody s_Machine_usual, defScope s_Machine_usual, [], []⟩
def d_rules_for : DefA := ⟨wGlo "rules_for", "rules_for", "rules_for", defArgs s_rules_for, defBody s_rules_for, defScope s_rules_for, [], []⟩
def d_is_right : DefA := ⟨wGlo "is_right", "is_right", "is_right", defArgs s_is_right, defBody s_is_right, defScope s_is_right, [.non], []⟩
def d_l_bag : DefA := ⟨wGlo "_law_bag", "_law_bag", "_law_bag", defArgs s_l_bag, defBody s_l_bag, defScope s_l_bag, [], []⟩
def d_l_take : DefA := ⟨wGlo "_law_take", "_law_take", "_law_take", defArgs s_l_take, defBody s_l_take, defScope s_l_take, [], []⟩
def d_l_of : DefA := ⟨wGlo "_law_of", "_law_of", "_law_of", defArgs s_l_of, defBody s_l_of, defScope s_l_of, [], []⟩
def d_l_all_signs : DefA := ⟨wGlo "_law_all_signs", "_law_all_signs", "_law_all_signs", defArgs s_l_all_signs, defBody s_l_all_signs, defScope s_l_all_signs, [], []⟩
def d_l_code : DefA := ⟨wGlo "_law_code", "_law_code", "_law_code", defArgs s_l_code, defBody s_l_code, defScope s_l_code, [], []⟩
def d_l_made : DefA := ⟨wGlo "_law_made", "_law_made", "_law_made", defArgs s_l_made, defBody s_l_made, defScope s_l_made, [], []⟩
def d_l_size : DefA := ⟨wGlo "_law_size", "_law_size", "_law_size", defArgs s_l_size, defBody s_l_size, defScope s_l_size, [], []⟩
def d_l_group : DefA := ⟨wGlo "_law_group", "_law_group", "_law_group", defArgs s_l_group, defBody s_l_group, defScope s_l_group, [], []⟩
def d_l_data : DefA := ⟨wGlo "_law_data", "_law_data", "_law_data", defArgs s_l_data, defBody s_l_data, defScope s_l_data, [], []⟩
def d_l_bits : DefA := ⟨wGlo "_law_bits", "_law_bits", "_law_bits", defArgs s_l_bits, defBody s_l_bits, defScope s_l_bits, [], []⟩
def d_l_number : DefA := ⟨wGlo "_law_number", "_law_number", "_law_number", defArgs s_l_number, defBody s_l_number, defScope s_l_number, [], []⟩
def d_l_digits : DefA := ⟨wGlo "_law_digits", "_law_digits", "_law_digits", defArgs s_l_digits, defBody s_l_digits, defScope s_l_digits, [], []⟩
def d_l_rows : DefA := ⟨wGlo "_law_rows", "_law_rows", "_law_rows", defArgs s_l_rows, defBody s_l_rows, defScope s_l_rows, [], []⟩
def d_l_other : DefA := ⟨wGlo "_law_other", "_law_other", "_law_other", defArgs s_l_other, defBody s_l_other, defScope s_l_other, [], []⟩
def d_l_ruled : DefA := ⟨wGlo "_law_ruled", "_law_ruled", "_law_ruled", defArgs s_l_ruled, defBody s_l_ruled, defScope s_l_ruled, [], []⟩
def d_l_made_rules : DefA := ⟨wGlo "_law_made_rules", "_law_made_rules", "_law_made_rules", defArgs s_l_made_rules, defBody s_l_made_rules, defScope s_l_made_rules, [], []⟩
def d_l_digit : DefA := ⟨wGlo "_law_digit", "_law_digit", "_law_digit", defArgs s_l_digit, defBody s_l_digit, defScope s_l_digit, [], []⟩
def d_l_spelt : DefA := ⟨wGlo "_law_spelt", "_law_spelt", "_law_spelt", defArgs s_l_spelt, defBody s_l_spelt, defScope s_l_spelt, [], []⟩
def d_l_noisy : DefA := ⟨wGlo "_law_noisy", "_law_noisy", "_law_noisy", defArgs s_l_noisy, defBody s_l_noisy, defScope s_l_noisy, [], []⟩
def d_l_right_text : DefA := ⟨wGlo "_law_right_text", "_law_right_text", "_law_right_text", defArgs s_l_right_text, defBody s_l_right_text, defScope s_l_right_text, [], []⟩
def d_l_kind : DefA := ⟨wGlo "_law_kind", "_law_kind", "_law_kind", defArgs s_l_kind, defBody s_l_kind, defScope s_l_kind, [], []⟩
def d_l_is_whole : DefA := ⟨wGlo "_law_is_whole", "_law_is_whole", "_law_is_whole", defArgs s_l_is_whole, defBody s_l_is_whole, defScope s_l_is_whole, [], []⟩
def d_l_may_pad : DefA := ⟨wGlo "_law_may_pad", "_law_may_pad", "_law_may_pad", defArgs s_l_may_pad, defBody s_l_may_pad, defScope s_l_may_pad, [], []⟩
def d_l_may_end : DefA := ⟨wGlo "_law_may_end", "_law_may_end", "_law_may_end", defArgs s_l_may_end, defBody s_l_may_end, defScope s_l_may_end, [], []⟩
def d_l_read : DefA := ⟨wGlo "_law_read", "_law_read", "_law_read", defArgs s_l_read, defBody s_l_read, defScope s_l_read, [], []⟩
def d_l_bent : DefA := ⟨wGlo "_law_bent", "_law_bent", "_law_bent", defArgs s_l_bent, defBody s_l_bent, defScope s_l_bent, [], []⟩
def d_l_right : DefA := ⟨wGlo "_law_right", "_law_right", "_law_right", defArgs s_l_right, defBody s_l_right, defScope s_l_right, [], []⟩
def d_law : DefA := ⟨wGlo "law", "law", "law", defArgs s_law, defBody s_law, defScope s_law, [], []⟩
def hdefs : List DefA := [d_is_integer, d_is_within, d_is_sign, d_are_signs, d_are_characters, d_check_text, d_other_case, d_is_option, d_Rules___init__, d_Rules_pads, d_Rules_skip, d_Rules_lines, d_Rules_loose, d_Rules_fold, d_Code_signs, d_Code_pad, d_Code_width, d_Code_bits, d_Code_group, d_Code___contains__, d_Code___init__, d_Code_has_rows, d_Code_is_foreign, d_Code_suits, d_Code_is_full, d_Code_next_column, d_Code_read_digit, d_Code_opening, d_Code_is_whole, d_Code_missing_pads, d_Code_may_pad, d_Code_may_end, d_Code_take, d_Machine_whole_data, d_Rules_suit, d_Machine_usual, d_rules_for, d_is_right, d_l_bag, d_l_take, d_l_of, d_l_all_signs, d_l_code, d_l_made, d_l_size, d_l_group, d_l_data, d_l_bits, d_l_number, d_l_digits, d_l_rows, d_l_other, d_l_ruled, d_l_made_rules, d_l_digit, d_l_spelt, d_l_noisy, d_l_right_text, d_l_kind, d_l_is_whole, d_l_may_pad, d_l_may_end, d_l_read, d_l_bent, d_l_right, d_law]
def hfacts : List Fact := [fFa (.glo "Rules"), fFa (.cls "Rules"), fFa (.glo "Code"), fFa (.cls "Code"), fFa (.glo "is_integer"), fFa (.glo "is_within"), fFa (.glo "is_sign"), fFa (.glo "are_signs"), fFa (.glo "are_characters"), fFa (.glo "check_text"), fFa (.glo "other_case"), fFa (.glo "is_option"), fFa (.mkr "Rules"), fProp "Rules" "pads", fProp "Rules" "skip", fProp "Rules" "lines", fProp "Rules" "loose", fProp "Rules" "fold", fProp "Code" "signs", fProp "Code" "pad", fProp "Code" "width", fProp "Code" "bits", fProp "Code" "group", fFa (.meth "Code" "__contains__"), fFa (.mkr "Code"), fFa (.meth "Code" "has_rows"), fFa (.meth "Code" "is_foreign"), fFa (.meth "Code" "suits"), fFa (.meth "Code" "is_full"), fFa (.meth "Code" "next_column"), fFa (.meth "Code" "read_digit"), fFa (.meth "Code" "opening"), fFa (.meth "Code" "is_whole"), fFa (.meth "Code" "missing_pads"), fFa (.meth "Code" "may_pad"), fFa (.meth "Code" "may_end"), fFa (.meth "Code" "take"), fFa (.meth "Code" "whole_data"), fFa (.meth "Rules" "suit"), fFa (.meth "Code" "usual"), fFa (.glo "rules_for"), fFa (.glo "is_right"), fFa (.glo "_law_bag"), fFa (.glo "_law_take"), fFa (.glo "_law_of"), fFa (.glo "_law_all_signs"), fFa (.glo "_law_code"), fFa (.glo "_law_made"), fFa (.glo "_law_size"), fFa (.glo "_law_group"), fFa (.glo "_law_data"), fFa (.glo "_law_bits"), fFa (.glo "_law_number"), fFa (.glo "_law_digits"), fFa (.glo "_law_rows"), fFa (.glo "_law_other"), fFa (.glo "_law_ruled"), fFa (.glo "_law_made_rules"), fFa (.glo "_law_digit"), fFa (.glo "_law_spelt"), fFa (.glo "_law_noisy"), fFa (.glo "_law_right_text"), fFa (.glo "_law_kind"), fFa (.glo "_law_is_whole"), fFa (.glo "_law_may_pad"), fFa (.glo "_law_may_end"), fFa (.glo "_law_read"), fFa (.glo "_law_bent"), fFa (.glo "_law_right"), fFa (.glo "law"), fFa (.noat "Rules" "options"), fFa (.noat "Code" "parts"), fFa (.noat "Code" "sign_bits"), fFa (.noat "Code" "digits"), fCRead "Code", fCVal "Code" "WIDEST" (.int 76), fFa (.str "PRINTED" " !\"#$&'()*+,-./0123456789:;<=>?@ABCDEFGHIJKLMNOPQRSTUVWXYZ[\\]^_`abcdefghijklmnopqrstuvwxyz{|}~"), fFa (.str "CHARACTERS" "\n !\"#$&'()*+,-./0123456789:;<=>?@ABCDEFGHIJKLMNOPQRSTUVWXYZ[\\]^_`abcdefghijklmnopqrstuvwxyz{|}~"), fFa (.int "MOST_CHARACTERS" 12000), fFa (.str "SMALLS" "abcdefghijklmnopqrstuvwxyz"), fFa (.str "CAPITALS" "ABCDEFGHIJKLMNOPQRSTUVWXYZ"), fFa (.glo "PADS"), fTup "PADS" [.str "full", .str "none", .str "optional", .str "any"], fFa (.glo "OPTIONS"), fTup "OPTIONS" [.str "pads", .str "skip", .str "lines", .str "loose", .str "fold"], fFa (.glo "GROUPS"), fTup "GROUPS" [.int 0, .int 8, .int 4, .int 8, .int 2, .int 8, .int 4], fFa (.glo "BITS"), (fun K => idB K (He.ga K "BITS") [(2, 1), (4, 2), (8, 3), (16, 4), (32, 5), (64, 6)]), fFa (.str "NEWLINE" "\n"), fFa (.int "BYTE_BITS" 8), fFa (.free "abs"), fFa (.free "all"), fFa (.free "bool"), fFa (.free "enumerate"), fFa (.free "int"), fFa (.free "isinstance"), fFa (.free "len"), fFa (.free "list"), fFa (.free "max"), fFa (.free "min"), fFa (.free "range"), fFa (.free "repr"), fFa (.free "str"), fFa (.free "super"), fIns "Rules"]
abbrev hrow : PySem.W.OpenRow := PySem.W.OpenLaw.row PySem.Challenge.rw_piecetexts_k19_right_texts_told
def herrs : List ErrN := [eN_NoCharacter]
abbrev hhook : PySem.W.Hook := hookNT hfacts hdefs herrs
def hob (s : PySem.W.SharedT) : AlA := obsNTG hfacts hdefs herrs (HandSHeadRun.getT s)
theorem hob_eq (s : PySem.W.SharedT) : hob s = hhook.obs s.abs := obsNTG_eq (HandSHeadRun.getT_eq s)
abbrev hloose0 : List Str := ["_wall", "BadSigns", "BadOption", "NoCharacter", "Unfit", "PRINTED", "CHARACTERS", "CAPITALS", "SMALLS", "MOST_CHARACTERS", "is_integer", "is_within", "is_sign", "are_signs", "are_characters", "check_text", "other_case", "rules_for", "is_right", "PADS", "SWITCHES", "OPTIONS", "is_option", "Rules", "Machine", "BYTE_BITS", "BITS", "GROUPS", "NEWLINE", "Code"]
abbrev hloose1 : List Str := ["_law_bag", "_law_take", "_law_of", "_law_all_signs", "_law_code", "_law_made", "_law_size", "_law_group", "_law_data", "_law_bits", "_law_number", "_law_digits", "_law_rows", "_law_other", "_law_ruled", "_law_made_rules", "_law_digit", "_law_spelt", "_law_noisy", "_law_right_text", "_law_kind", "_law_is_whole", "_law_may_pad", "_law_may_end", "_law_read", "_law_bent", "_law_right"]
abbrev hloose : List Str := hloose0 ++ hloose1
theorem hrun_true (w : World) : HandSHeadRun.RunEq hrow (PySem.W.view hrow.prog [64]) hhook hob 9000 hloose (w.withFollow "special-get-raises" true) := by
  intro os
  kernel_rfl
theorem hrun_false (w : World) : HandSHeadRun.RunEq hrow (PySem.W.view hrow.prog [64]) hhook hob 9000 hloose (w.withFollow "special-get-raises" false) := by
  intro os
  kernel_rfl
theorem hrun (w : World) : HandSHeadRun.RunEq hrow (PySem.W.view hrow.prog [64]) hhook hob 9000 hloose w := PySem.W.byRow2 "special-get-raises" (P := fun w => HandSHeadRun.RunEq hrow (PySem.W.view hrow.prog [64]) hhook hob 9000 hloose w) hrun_false hrun_true w

end Px
namespace Px
open PySem PySem.Spec PyProof.Rows L2
section
variable {X : Cx}
theorem PE.or {e : Expr} {t1 t2 : TE} (h1 : PE X e t1) (h2 : PE X e t2) : PE X e (fun σ H Q => t1 σ H Q ∨ t2 σ H Q) := by
  refine ⟨fun pins s σ H Q I h => ?_⟩
  rcases h with h | h
  · exact h1.run pins s σ H Q I h
  · exact h2.run pins s σ H Q I h
/-! ### a text from behind -/
def revS (z : Str) : Str := ⟨z.cps.toList.reverse.toArray⟩
theorem rev_picked (z : Str) (t : Tok) (u : Tok) : sliceMade z t none none (some (-1, u)) = .str (revS z) := by
  unfold sliceMade slicePicked
  have h1 : ((((some ((-1 : Int), u)).map (·.1)).getD 1 == 1) && ((Builtin.Str.strSliceIndices (Option.map (·.1) (none : Option (Int × Tok))) (Option.map (·.1) (none : Option (Int × Tok))) (((some ((-1 : Int), u)).map (·.1)).getD 1) z.length).length == z.length)) = false := by
    rw [Bool.and_eq_false_iff]
    left
    rfl
  rw [h1, if_neg Bool.false_ne_true]
  have h2 : Builtin.Str.strSliceIndices (Option.map (·.1) (none : Option (Int × Tok))) (Option.map (·.1) (none : Option (Int × Tok))) (((some ((-1 : Int), u)).map (·.1)).getD 1) z.length = sliceRange ((z.length : Int) - 1) (-1) (-1) := rfl
  rw [h2, PySem.W.krv_sliceRange, PySem.W.krv_range, List.filterMap_reverse]
  have h3 : List.filterMap (fun x => z.cps[x]?) (List.range z.length) = z.cps.toList := PySem.W.krv_all z.cps
  rw [h3]
  rfl
def tRevS (te : TE) : TE := fun σ H Q => te σ H fun x H1 => ∃ z, x = .str z ∧ z.length ≤ sizeLine ∧ Q (.str (revS z)) H1
theorem pe_revS {e : Expr} {te : TE} {k : Nat} {p1 p2 p3 pos : Pos} (he : PE X e te) : PE X (.Subscript e (.Slice none none (some (.UnaryOp .USub (.Constant (.int 1) k p1) p2)) p3) pos) (tRevS te) := by
  refine ⟨fun pins s σ H Q I h => ?_⟩
  refine Subscript_ (thn (he.run pins s σ H _ I h) fun v s1 ⟨x, H1, I1, r1, q1⟩ => ?_)
  obtain ⟨z, rfl, hz, q⟩ := q1
  obtain ⟨t, rfl⟩ := r1
  have hst : PO X (some (.UnaryOp .USub (.Constant (.int 1) k p1) p2)) (tPart (tUn rNegI (tC (.int 1)))) := po_some (pe_un un_neg pe_int)
  refine wpAny_Slice (thn (po_none.run pins s1 σ H1 (fun o G => o = none ∧ G = H1) I1 ⟨rfl, rfl⟩) fun vl s2 ⟨l, H2, I2, pl, el, e2⟩ => ?_)
  subst el e2
  refine thn (po_none.run pins s2 σ H2 (fun o G => o = none ∧ G = H2) I2 ⟨rfl, rfl⟩) fun vu s3 ⟨u, H3, I3, pu, eu, e3⟩ => ?_
  subst eu e3
  refine thn (hst.run pins s3 σ H3 (fun o G => o = some (-1) ∧ G = H3) I3 ⟨1, rfl, -1, rfl, rfl, rfl⟩) fun vs s4 ⟨o, H4, I4, ps, eo, e4⟩ => ?_
  subst eo e4
  have I5 : Inv X pins σ H4 { s4 with heap := s4.heap.push { cls := .type "slice", data := .fields #[vl, vu, vs] } } := I4.kept (t' := s4.toks) fun b ob q => Heap.get?_push_of_some _ q
  obtain ⟨l, rfl, e1⟩ := IsPart.raw pl
  obtain ⟨u, rfl, e2⟩ := IsPart.raw pu
  obtain ⟨w3, rfl, e3⟩ := IsPart.raw ps
  cases l with
  | some p => cases e1
  | none =>
    cases u with
    | some p => cases e2
    | none =>
      cases w3 with
      | none => cases e3
      | some p =>
        obtain ⟨i, tk⟩ := p
        have hi : i = (-1 : Int) := Option.some.inj e3
        subst hi
        refine tail_any (ops := [.ref s4.heap.objs.size, .str z t]) (typeIs_str _ _ _) (F.slot_str_getitem.lookup) ?_ (by with_unfolding_all rfl)
        refine wpAny_getItem_str_slice (l := none) (u := none) (st := some (-1, tk)) ⟨_, Heap.get?_push_size _ rfl, rfl, rfl⟩ rfl ?_
        rw [rev_picked]
        refine ⟨?_, .str _, H4, I5.tok _, ⟨_, rfl⟩, q⟩
        have e : (revS z).length = z.length := by
          unfold revS
          show (List.toArray z.cps.toList.reverse).size = z.cps.size
          simp
        omega
def tRevU (K : PySem.W.Frag) (te : TE) : TE := fun σ H Q => tRevL K te σ H Q ∨ tRevS te σ H Q
theorem pe_rev {e : Expr} {te : TE} {k : Nat} {p1 p2 p3 pos : Pos} (he : PE X e te) : PE X (.Subscript e (.Slice none none (some (.UnaryOp .USub (.Constant (.int 1) k p1) p2)) p3) pos) (tRevU X.K te) := PE.or (pe_revL he) (pe_revS he)

/-! ### repr -/
def rRepr (K : PySem.W.Frag) : List V → Hp → VK → Prop := fun xs H Q => ∃ x d, xs = [x] ∧ Dp K H x d ∧ d.showable = true ∧ d.shown.length ≤ sizeLine ∧ d.depth ≤ 60 ∧ Q (.str d.shown) H
mutual
theorem dp_noDict {K : PySem.W.Frag} {H : Hp} : ∀ (d : PyData) (v : V), Dp K H v d → d.hasDict = false
  | .none, _, _ => by simp only [PyData.hasDict]
  | .bool _, _, _ => by simp only [PyData.hasDict]
  | .int _, _, _ => by simp only [PyData.hasDict]
  | .str _, _, _ => by simp only [PyData.hasDict]
  | .list ds, _, h => by
    cases h with
    | lst _ ha => simp only [PyData.hasDict]; exact dp_noDictAll ds _ ha
  | .tuple ds, _, h => by
    cases h with
    | tup _ ha => simp only [PyData.hasDict]; exact dp_noDictAll ds _ ha
  | .dict _, _, h => by cases h
theorem dp_noDictAll {K : PySem.W.Frag} {H : Hp} : ∀ (ds : List PyData) (vs : List V), DpAll K H vs ds → PyData.hasDictAll ds = false
  | [], _, _ => by simp only [PyData.hasDictAll]
  | d :: ds, _, h => by
    cases h with
    | cons h1 h2 =>
      simp only [PyData.hasDictAll]
      rw [dp_noDict d _ h1, dp_noDictAll ds _ h2]
      rfl
end
theorem c_repr (hg : X.A.guards = some []) (hu : X.A.units + 64 < cLine) : CallR X (.builtin "repr") (rRepr X.K) := by
  intro pins s σ H xs us Q I r h
  obtain ⟨x, d, rfl, hd, hs, hz, hdep, q⟩ := h
  obtain ⟨u, rfl, rx⟩ := vals1 r
  obtain ⟨as, rd⟩ := Dp.reads I d x u hd rx
  have hnd := dp_noDict d x hd
  cases x with
  | ref a =>
    obtain rfl : u = .ref a := rx
    refine repr_of_reads' rd hs (fun h => by rw [hnd] at h; cases h) hg (by omega) (fun _ _ e => e) (fun h' u tk hk => ⟨.str _, H, I.kept (t' := tk) hk, ⟨u, rfl⟩, q⟩) hz
  | non =>
    cases hd
    obtain rfl : u = .none := rx
    simp only [PyData.shown] at q
    exact PySem.P.repr_of_none ⟨.str _, H, I.tok _, ⟨_, rfl⟩, q⟩
  | bl b =>
    cases hd
    obtain rfl : u = .bool b := rx
    simp only [PyData.shown] at q
    exact PySem.P.repr_of_bool ⟨.str _, H, I.tok _, ⟨_, rfl⟩, q⟩
  | int i =>
    cases hd
    obtain ⟨t, rfl⟩ := rx
    simp only [PyData.shown] at q
    simp only [PyData.showable] at hs
    exact PySem.P.repr_of_int (of_decide_eq_true hs) ⟨.str _, H, I.tok _, ⟨_, rfl⟩, q⟩
  | str z =>
    cases hd
    obtain ⟨t, rfl⟩ := rx
    simp only [PyData.shown] at q hz
    exact PySem.P.repr_of_str ⟨.str _, H, I.tok _, ⟨_, rfl⟩, q⟩ hz
  | byt b => cases hd
  | flt b => cases hd
  | ty n => cases hd

/-! ### contracts that know that no repr is under way -/
structure FnG (P : Program) (w : World) (K : PySem.W.Frag) (mg : Str → Option Value) (base : Heap) (CX : CXT) (k : Nat) (f : Addr) (fd : FuncData) (ps : List Str) (sp : Sp) : Prop where
  len : ∀ vs H Q E, sp vs H Q E → vs.length = ps.length
  run : ∀ (A : Around) (outer : List Env) (s : Shared) (H : Hp) (args : Args) (us : List Value) (vs : List V) (Q : VK) (E : XK), A.guards = some [] → Room k A → Env0 P w K mg base A outer s H → BindsTo s fd args (ps.zip us) →
    Vals vs us → sp vs H Q E → codeAny (model P w) A (.call (.ref f) args) (CR CX outer P w H s Q E) s
theorem FnG.of {P : Program} {w : World} {K : PySem.W.Frag} {mg : Str → Option Value} {base : Heap} {CX : CXT} {k : Nat} {f : Addr} {fd : FuncData} {ps : List Str} {sp : Sp} (F : FnOk P w K mg base CX k f fd ps sp) : FnG P w K mg base CX k f fd ps sp :=
  ⟨F.len, fun A outer s H args us vs Q E _ => F.run A outer s H args us vs Q E⟩
end
section
variable {X : Cx} {CX : CXT} {k : Nat} {f : Addr} {fd : FuncData} {ps : List Str} {sp : Sp} {ds : List Value} {dvs : List V} {E : XK} {x : Str} {p pos : Pos} {e : Expr} {es : List Expr} {t : TA}
theorem run_g {pins : List (Addr × Obj)} {σ : L2.St} {H : Hp} {s : Shared} {Q : VK} {us : List Value} {vs : List V} (F : FnG X.prog X.w X.K X.mg X.base CX k f fd ps sp) (hG : X.A.guards = some []) (hr : Room k X.A) (hb : Binds X.K fd ps ds) (hd : Vals dvs ds)
    (hx : Passes CX X E) (I : Inv X pins σ H s) (r : Vals vs us) (h : sp (vs ++ dvs) H Q E) : wpAny (model X.prog X.w) X.A (call (.ref f) us) (EP X pins σ Q) X.xe s := by
  have r2 : Vals (vs ++ dvs) (us ++ ds) := r.append hd
  have hl : (us ++ ds).length = ps.length := r2.length.symm.trans (F.len _ _ _ _ h)
  have go := F.run X.A X.stack s H ⟨us, []⟩ (us ++ ds) (vs ++ dvs) Q E hG hr I.env0 (hb s us I.kIn hl) r2 h
  refine wpAny_call (codeAny_mono go fun r s' hq => ?_)
  match r, hq with
  | .error e, hq => exact hx pins σ H s e s' I hq
  | .ok (.ret u), hq => exact I.after hq
  | .ok .next, hq => exact hq.elim
  | .ok .brk, hq => exact hq.elim
  | .ok .cont, hq => exact hq.elim
theorem pe_callG (F : FnG X.prog X.w X.K X.mg X.base CX k f fd ps sp) (hG : X.A.guards = some []) (hr : Room k X.A) (hg : Gl X x) (hm : X.mg x = some (.ref f)) (hk : PySem.W.keepIn X.K (.ref f) = true) (hb : Binds X.K fd ps ds) (hd : Vals dvs ds) (hx : Passes CX X E)
    (ha : PA X (e :: es) t) (hdb : (x == ("__debug__" : Str)) = false := by decide) (he : starEach (e :: es) X.env = (false, eval e X.env) :: starEach es X.env := by rfl) (hpl : (backTo pos (starEach es X.env)).any (·.1) = false := by rfl) :
    PE X (.Call (.Name x p) (e :: es) [] pos) (tCall sp dvs E t) := by
  refine ⟨fun pins s σ H Q I h => wpAny_Call_Name_kw (ld_glob I hg hm ?_ hdb)⟩
  exact PySem.W.callWith_K (h₀ := X.base) I.ok.mod.kin hk (thn (ha.run pos pins s σ H _ I h) fun us s1 ⟨vs, H1, I1, r, q⟩ => ⟨I1.kIn, run_g F hG hr hb hd hx I1 r q⟩) he hpl
theorem pe_callG0 (F : FnG X.prog X.w X.K X.mg X.base CX k f fd ps sp) (hG : X.A.guards = some []) (hr : Room k X.A) (hg : Gl X x) (hm : X.mg x = some (.ref f)) (hk : PySem.W.keepIn X.K (.ref f) = true) (hb : Binds X.K fd ps ds) (hd : Vals dvs ds) (hx : Passes CX X E)
    (hdb : (x == ("__debug__" : Str)) = false := by decide) : PE X (.Call (.Name x p) [] [] pos) (tCall sp dvs E tNil) :=
  ⟨fun pins s σ H Q I h => wpAny_Call_Name_kw (ld_glob I hg hm (PySem.W.callWith_K0 I.kIn hk (run_g (us := []) F hG hr hb hd hx I .nil h)) hdb)⟩
end
section
variable  {P : Program} {w : World} {K : PySem.W.Frag} {mg : Str → Option Value} {base : Heap} {x qual : Str} {params : Arguments} {body : List Stmt} {scope : Scope} {dvs : List V} {kws : List (Str × V)} {f : Addr} {fd : FuncData}
theorem fnG_ok {CX : CXT} {N ps : List Str} {k : Nat} {sp : Sp} (F : FunD K x qual params body scope dvs kws f fd) (S : FnScope N ps scope) (len : ∀ vs H Q E, sp vs H Q E → vs.length = ps.length)
    (hbody : ∀ (cdv : Value) (A : Around) (outer : List Env) (s : Shared) (H : Hp) (vs : List V) (Q : VK) (E : XK), (A.deeper (envOfC qual scope s.heap.objs.size f cdv)).guards = some [] → Room k (A.deeper (envOfC qual scope s.heap.objs.size f cdv)) → sp vs H Q E →
      ∃ t, PSs (cxOf CX P w K mg base N qual scope f cdv A outer s H E) body t ∧ t { nx := fun _ H' => Q .non H', rt := Q } (start N vs) H) : FnG P w K mg base CX (k + 1) f fd ps sp := by
  obtain ⟨oc, od, dV, kV, doc, pm, an, cdv, ct, osl, rfl, lk, hcd, _, _⟩ := F.ex
  refine ⟨len, fun A outer s H args us vs Q E hG hr e0 hb r hsp => ?_⟩
  have KX : K.In s.heap := e0.mod.kin.keeps fun b o e => (e0.bs b o e).1
  have lim : s.heap.NoLimit := e0.mod.nolimit.keeps fun b o e => (e0.bs b o e).1
  have hkind : ∀ y ∈ ps.zip us, scope.names.lookup y.1 = some .local ∨ (scope.names.lookup y.1 = some .cell ∧ ((cellsFrom (s.heap.objs.size + 1) scope.names []).lookup y.1).isSome = true) := fun y hy =>
    (S.par y.1 (List.of_mem_zip (show (y.1, y.2) ∈ ps.zip us from hy)).1).imp id fun q => ⟨q, PySem.W.cellsFrom_some _ _ _ (.inl q)⟩
  refine codeAny_call_function hr.depth (KX _ _ lk) rfl S.co S.gen rfl (PySem.W.codeRec_of KX hcd) (hb _ _ _ _ (wpAny_newFunctionEnv_cells S.kind hkind fun env he s1 x => ?_))
  subst he
  refine ⟨lim.keeps x.toInCall.keep, codeAny_func ?_⟩
  obtain ⟨t, ht, hq⟩ := hbody cdv A outer s H vs Q E hG (hr.deeper _) hsp
  have I : Inv (cxOf CX P w K mg base N qual scope f cdv A outer s H E) [] (start N vs) H s1 := inv_start S hr.hd e0 (len _ _ _ _ hsp) r x
  refine wpAny_mono (ht.run [] s1 (start N vs) H _ I hq) (fun fl s' hs => ?_) fun e s' hs => hs
  match fl, hs with
  | .ret u, ⟨v, σ', H', J, rv, q⟩ => exact ⟨v, H', J.os, J.bare, J.base, J.hok, rv, q⟩
  | .next, ⟨σ', H', J, q⟩ => exact ⟨V.non, H', J.os, J.bare, J.base, J.hok, rfl, q⟩
  | .brk, ⟨_, _, _, q⟩ => exact q.elim
  | .cont, ⟨_, _, _, q⟩ => exact q.elim
end
end Px

namespace Px
open PySem PySem.Spec PyProof.Rows L2
/-! ### built-ins by any kind of value -/
def rLenU (K : PySem.W.Frag) : List V → Hp → VK → Prop := fun xs H Q => ∃ x n, xs = [x] ∧ LenV K x H n ∧ Q (.int n) H
def rAbs : List V → Hp → VK → Prop := fun xs H Q => ∃ i, xs = [.int i] ∧ Q (.int (if i < 0 then -i else i)) H
def rMax2 : List V → Hp → VK → Prop := fun xs H Q => ∃ i j, xs = [.int i, .int j] ∧ Q (.int (if j > i then j else i)) H
def rMin2 : List V → Hp → VK → Prop := fun xs H Q => ∃ i j, xs = [.int i, .int j] ∧ Q (.int (if j < i then j else i)) H
def rStrI : List V → Hp → VK → Prop := fun xs H Q => ∃ i, xs = [.int i] ∧ i.natAbs.log2 < 1920 ∧ Q (.str (toString i)) H
def rListOf (K : PySem.W.Frag) : List V → Hp → VK → Prop := fun xs H Q => ∃ p ys, xs = [.ref p] ∧ (SqL K H p ys ∨ SqT K H p ys) ∧ ∀ l, H l = none → Q (.ref l) (upd H l (.lst ys))
def rOrd : List V → Hp → VK → Prop := fun xs H Q => ∃ i : Nat, xs = [.str ⟨#[i]⟩] ∧ Q (.int i) H
def rJoin (K : PySem.W.Frag) : V → List V → Hp → VK → Prop := fun x xs H Q => ∃ a p, ∃ ys : List Str, x = .str a ∧ xs = [.ref p] ∧ (SqL K H p (ys.map V.str) ∨ SqT K H p (ys.map V.str)) ∧
  (ys.map (·.length)).sum + ys.length * a.length ≤ 16777216 ∧ Q (.str (Txt.join a ys)) H
def tJoinU (K : PySem.W.Frag) (to te : TE) : TE := tM1 (rJoin K) to te
section
variable {X : Cx}
theorem c_lenU : CallR X (.builtin "len") (rLenU X.K) := call_len
theorem c_abs : CallR X (.builtin "abs") rAbs := call_abs
theorem c_max2 (hc : X.calm = true) : CallR X (.builtin "max") rMax2 := call_max2 hc
theorem c_min2 (hc : X.calm = true) : CallR X (.builtin "min") rMin2 := call_min2 hc
/-! ### x += y -/
def rIaddS : TIp := fun x y H Q => ∃ i j, x = .str i ∧ y = .str j ∧ i.length + j.length ≤ sizeLine ∧ Q (.str (i ++ j)) H
def rIaddU (K : PySem.W.Frag) : TIp := fun x y H Q => ipI (fun i j => i + j) x y H Q ∨ rIaddS x y H Q
theorem PIp.or {op : Operator} {t1 t2 : TIp} (h1 : PIp X op t1) (h2 : PIp X op t2) : PIp X op (fun x y H Q => t1 x y H Q ∨ t2 x y H Q) := fun pins s σ H x y v u Q I rx ry h => by
  rcases h with h | h
  · exact h1 pins s σ H x y v u Q I rx ry h
  · exact h2 pins s σ H x y v u Q I rx ry h
theorem ip_addU : PIp X .Add (rIaddU X.K) := PIp.or ip_add fun pins s σ H x y v u Q I rx ry h => iop_add_str pins s σ H x y v u Q I rx ry h
end
section
variable {K : PySem.W.Frag} {σ : S} {H : Hp} {Q : VK} {D : Ends} {t u : TS} {ta tb tc td te : TE} {x y v : V} {tr : TA} {i j : Int}
theorem r_addUI (h : Q (.int (i + j)) H) : rAddU K (.int i) (.int j) H Q := .inl ⟨i, j, rfl, rfl, h⟩
theorem r_addUS {a b : Str} (h1 : a.length + b.length ≤ sizeLine) (h : Q (.str (a ++ b)) H) : rAddU K (.str a) (.str b) H Q := .inr (.inl ⟨a, b, rfl, rfl, h1, h⟩)
theorem r_addUL {l b : Addr} {xs zs : List V} (h1 : H l = some (.lst xs)) (h2 : H b = some (.lst zs)) (h3 : xs.length + zs.length ≤ sizeLine) (h : ∀ p, H p = none → Q (.ref p) (upd H p (.lst (xs ++ zs)))) : rAddU K (.ref l) (.ref b) H Q :=
  .inr (.inr (.inl ⟨l, b, xs, zs, rfl, rfl, h1, h2, h3, h⟩))
theorem r_mulUI (h1 : CMul i j) (h : Q (.int (i * j)) H) : rMulU K (.int i) (.int j) H Q := .inl ⟨i, j, rfl, rfl, h1, h⟩
theorem r_mulUL {l : Addr} {xs : List V} (h1 : H l = some (.lst xs)) (h2 : -(2 ^ 63) ≤ i ∧ i < 2 ^ 63) (h3 : xs.length * i.toNat ≤ sizeLine) (h : ∀ p, H p = none → Q (.ref p) (upd H p (.lst (List.replicate i.toNat xs).flatten))) : rMulU K (.ref l) (.int i) H Q :=
  .inr ⟨l, i, xs, rfl, rfl, h1, h2.1, h2.2, h3, h⟩
theorem r_eqUI (h : Q (.bl (decide (i = j))) H) : rEqU K (.int i) (.int j) H Q := .inl (r_eqI h)
theorem r_eqUS {a b : Str} (h : Q (.bl (decide (a = b))) H) : rEqU K (.str a) (.str b) H Q := .inl (r_eqS h)
theorem r_eqUB {a b : Bool} (h : Q (.bl (decide (a = b))) H) : rEqU K (.bl a) (.bl b) H Q := .inl (r_eqB h)
theorem r_neUI (h : Q (.bl (!decide (i = j))) H) : rNeU K (.int i) (.int j) H Q := .inl (r_neI h)
theorem r_neUS {a b : Str} (h : Q (.bl (!decide (a = b))) H) : rNeU K (.str a) (.str b) H Q := .inl (r_neS h)
theorem r_eqUD {d e : PyData} (h1 : Dp K H x d) (h2 : Dp K H y e) (h3 : SeqAt.shaped d = true) (h4 : SeqAt.shaped e = true) (h : Q (.bl (PyData.eqv d e)) H) : rEqU K x y H Q := .inr ⟨d, e, h1, h2, h3, h4, h⟩
theorem r_neUD {d e : PyData} (h1 : Dp K H x d) (h2 : Dp K H y e) (h3 : SeqAt.shaped d = true) (h4 : SeqAt.shaped e = true) (h : Q (.bl (!PyData.eqv d e)) H) : rNeU K x y H Q := .inr ⟨d, e, h1, h2, h3, h4, h⟩
theorem r_lenUL {a : Addr} {xs : List V} (h1 : SqL K H a xs) (h : Q (.int xs.length) H) : rLenU K [.ref a] H Q := ⟨_, xs.length, rfl, .inl ⟨xs, h1, rfl⟩, h⟩
theorem r_lenUT {a : Addr} {xs : List V} (h1 : SqT K H a xs) (h : Q (.int xs.length) H) : rLenU K [.ref a] H Q := ⟨_, xs.length, rfl, .inr ⟨xs, h1, rfl⟩, h⟩
theorem r_lenUS {z : Str} (h1 : z.length ≤ sizeLine) (h : Q (.int z.length) H) : rLenU K [.str z] H Q := ⟨_, z.length, rfl, ⟨h1, rfl⟩, h⟩
theorem r_abs (h : Q (.int (if i < 0 then -i else i)) H) : rAbs [.int i] H Q := ⟨i, rfl, h⟩
theorem r_max2 (h : Q (.int (if j > i then j else i)) H) : rMax2 [.int i, .int j] H Q := ⟨i, j, rfl, h⟩
theorem r_min2 (h : Q (.int (if j < i then j else i)) H) : rMin2 [.int i, .int j] H Q := ⟨i, j, rfl, h⟩
theorem r_strI (h1 : i.natAbs.log2 < 1920) (h : Q (.str (toString i)) H) : rStrI [.int i] H Q := ⟨i, rfl, h1, h⟩
theorem r_listL {a : Addr} {xs : List V} (h1 : SqL K H a xs) (h : ∀ l, H l = none → Q (.ref l) (upd H l (.lst xs))) : rListOf K [.ref a] H Q := ⟨a, xs, rfl, .inl h1, h⟩
theorem r_min {a : Addr} {ns : List Int} (h1 : SqL K H a (ns.map V.int)) (h2 : 0 < ns.length) (h : ∀ m, m ∈ ns → (∀ y, y ∈ ns → m ≤ y) → Q (.int m) H) : rMin K [.ref a] H Q := ⟨a, ns, rfl, h1, h2, h⟩
theorem r_isi {c : V} {tv cu : Value} {b : Bool} (h1 : ClsV c cu) (h2 : TyX K H x tv) (h3 : PySem.W.kitOne K tv cu = some b) (h : Q (.bl b) H) : rIsi K [x, c] H Q := ⟨x, c, tv, cu, b, rfl, h1, h2, h3, h⟩
theorem r_repr {d : PyData} (h1 : Dp K H x d) (h2 : d.showable = true) (h3 : d.shown.length ≤ sizeLine) (h4 : d.depth ≤ 60) (h : Q (.str d.shown) H) : rRepr K [x] H Q := ⟨x, d, rfl, h1, h2, h3, h4, h⟩
theorem r_sl {r : V → Option Int → Option Int → Hp → VK → Prop} {tl th : TO} (h : te σ H fun x H1 => tl σ H1 fun l H2 => th σ H2 fun u H3 => r x l u H3 Q) : tSl r te tl th σ H Q := h
theorem r_noPart {P : Option Int → Hp → Prop} (h : P none H) : tNoPart σ H P := h
theorem r_part {P : Option Int → Hp → Prop} (h : te σ H fun x H1 => ∃ i, x = .int i ∧ P (some i) H1) : tPart te σ H P := h
theorem r_int {P : Int → Prop} (h : P i) : ∃ k, V.int i = V.int k ∧ P k := ⟨i, rfl, h⟩
theorem r_slUL {lo hi : Option Int} {a : Addr} {xs : List V} (h1 : SqL K H a xs) (h : ∀ p, H p = none → Q (.ref p) (upd H p (.lst (cutV xs lo hi)))) : rSlU K (.ref a) lo hi H Q := .inl ⟨a, xs, rfl, h1, h⟩
theorem r_slUS {lo hi : Option Int} {z : Str} (h1 : z.length ≤ sizeLine) (h : Q (.str (cutS z lo hi)) H) : rSlU K (.str z) lo hi H Q := .inr (.inl ⟨z, rfl, h1, h⟩)
theorem r_bm {T : String} {r : V → List V → Hp → VK → Prop} (h : ta σ H fun x H1 => tyV K T x H1 ∧ tr σ H1 fun xs H2 => r x xs H2 Q) : tBM K T r ta tr σ H Q := h
theorem r_tyL {a : Addr} {xs : List V} (h1 : SqL K H a xs) : tyV K "list" (.ref a) H := .inl ⟨rfl, _, h1⟩
theorem r_append {p : Addr} {xs : List V} (h1 : H p = some (.lst xs)) (h2 : xs.length < sizeLine) (h : Q .non (upd H p (.lst (xs ++ [y])))) : rAppend (.ref p) [y] H Q := ⟨p, xs, y, rfl, rfl, h1, h2, h⟩
theorem r_join {z : Str} (h : te σ H fun y H2 => rJoin K (.str z) [y] H2 Q) (h0 : ta = tC (.str z)) : tJoinU K ta te σ H Q := by
  subst h0
  exact ⟨⟨z, rfl⟩, h⟩
theorem r_chain3 {r r' r'' : R2} (h : ta σ H fun x H1 => tb σ H1 fun y H2 => r x y H2 fun z H3 => ∃ k, z = .bl k ∧
  (if k = true then tc σ H3 fun y' H4 => r' y y' H4 fun z' H5 => ∃ k', z' = .bl k' ∧ (if k' = true then td σ H5 fun w' H6 => r'' y' w' H6 Q else Q (.bl false) H5) else Q (.bl false) H3)) : tChain3 r r' r'' ta tb tc td σ H Q := h
theorem r_iaddI {P : V → Hp → Prop} (h : P (.int (i + j)) H) : rIaddU K (.int i) (.int j) H P := .inl ⟨i, j, rfl, rfl, h⟩
theorem r_iaddS {a b : Str} {P : V → Hp → Prop} (h1 : a.length + b.length ≤ sizeLine) (h : P (.str (a ++ b)) H) : rIaddU K (.str a) (.str b) H P := .inr ⟨a, b, rfl, rfl, h1, h⟩
def tFors (J : It) (g : TG) (tb : TS) (D : Ends) (σ : S) (H : Hp) : Prop := ∃ W : Nat → Nat → S → Hp → Prop, (∃ m, W 0 m σ H) ∧ ∀ i m σ H, W i m σ H →
  (J.stop i H ∧ D.nx σ H) ∨ (J.go i H ∧ ∃ N : S → Hp → Prop, (∀ σ' H', N σ' H' → ∃ m', m' < m ∧ W (i + 1) m' σ' H') ∧ ∀ x H', J.yld i H x H' → g x σ H' fun σ2 H2 => tb { D with nx := N, ct := N, bk := D.nx } σ2 H2)
theorem r_for {wi : TI} {g : TG} {tb : TS} (h : wi σ H fun J H1 => tFors J g tb D σ H1) : tFor wi g tb D σ H := h
theorem f_it {J : It} {n : Nat} {G : Hp → Prop} {Y : Nat → Hp → V → Hp → Prop} {g : TG} {tb : TS} (w : Walk J n G Y) (Pv : Nat → S → Hp → Prop) (h0 : Pv 0 σ H) (hG : ∀ i σ H, i ≤ n → Pv i σ H → G H)
    (hs : ∀ i x σ H H', i < n → Pv i σ H → Y i H x H' → g x σ H' fun σ2 H2 => tb { D with nx := Pv (i + 1), ct := Pv (i + 1), bk := D.nx } σ2 H2) (hd : ∀ σ H, Pv n σ H → D.nx σ H) : tFors J g tb D σ H := for_it w Pv h0 hG hs hd
def tLcs (J : It) (g : TG) (tt : TT) (te : TE) (vs : List Nat) (σ : S) (H1 : Hp) (D : Addr) (Qd : Hp → Prop) : Prop := ∃ W : Nat → Nat → Hp → Prop, (∃ m, W 0 m (upd H1 D (.lst []))) ∧ ∀ i m H, W i m H →
  (J.stop i H ∧ Qd H) ∨ (J.go i H ∧ ∃ Nx : Hp → Prop, (∀ H', Nx H' → ∃ m', m' < m ∧ W (i + 1) m' H') ∧ ∀ x H', J.yld i H x H' → g x (wipe σ vs) H' fun σ2 H2 => wipe σ2 vs = wipe σ vs ∧ tt σ2 H2 fun b H3 =>
    if b = true then te σ2 H3 fun y H4 => ∃ acc, H4 D = some (.lst acc) ∧ acc.length < sizeLine ∧ Nx (upd H4 D (.lst (acc ++ [y]))) else Nx H3)
theorem r_lc {wi : TI} {g : TG} {tt : TT} {vs : List Nat} (h : wi σ H fun J H1 => ∀ p, H1 p = none → tLcs J g tt te vs σ H1 p fun H2 => Q (.ref p) H2) : tLc wi g tt te vs σ H Q := h
theorem c_it {J : It} {n : Nat} {G : Hp → Prop} {Y : Nat → Hp → V → Hp → Prop} {g : TG} {tt : TT} {vs : List Nat} {p : Addr} {Qd : Hp → Prop} (w : Walk J n G Y) (Pv : Nat → Hp → Prop) (h0 : Pv 0 (upd H p (.lst []))) (hG : ∀ i H, i ≤ n → Pv i H → G H)
    (hs : ∀ i x H H', i < n → Pv i H → Y i H x H' → g x (wipe σ vs) H' fun σ2 H2 => wipe σ2 vs = wipe σ vs ∧ tt σ2 H2 fun b H3 =>
      if b = true then te σ2 H3 fun y H4 => ∃ acc, H4 p = some (.lst acc) ∧ acc.length < sizeLine ∧ Pv (i + 1) (upd H4 p (.lst (acc ++ [y]))) else Pv (i + 1) H3) (hd : ∀ H, Pv n H → Qd H) : tLcs J g tt te vs σ H p Qd := lc_it w Pv h0 hG hs hd
theorem r_while {c : TT} {tb : TS} (Pv : S → Hp → Prop) (μ : S → Hp → Nat) (Pe : S → Hp → Prop) (h0 : Pv σ H) (he : ∀ σ H, Pe σ H → D.nx σ H)
    (hs : ∀ σ H, Pv σ H → (∀ σ H, Pe σ H → D.nx σ H) → c σ H fun b H1 => if b = true then ∃ N : S → Hp → Prop, (∀ σ' H', N σ' H' → ∃ m', m' < μ σ H ∧ (m' = μ σ' H' ∧ Pv σ' H')) ∧ tb { D with nx := N, ct := N, bk := D.nx } σ H1 else D.nx σ H1) : tWhile c tb D σ H := by
  refine ⟨fun m σ H => m = μ σ H ∧ Pv σ H, ⟨_, rfl, h0⟩, ?_⟩
  rintro m σ H ⟨rfl, p⟩
  exact hs σ H p he
theorem r_turn {tb : TS} {Pv : S → Hp → Prop} {μ : S → Hp → Nat} {m : Nat} {rt : VK} {bk : S → Hp → Prop} (h : tb { nx := fun σ' H' => Pv σ' H' ∧ μ σ' H' < m, rt := rt, ct := fun σ' H' => Pv σ' H' ∧ μ σ' H' < m, bk := bk } σ H) :
    ∃ N : S → Hp → Prop, (∀ σ' H', N σ' H' → ∃ m', m' < m ∧ (m' = μ σ' H' ∧ Pv σ' H')) ∧ tb { nx := N, rt := rt, ct := N, bk := bk } σ H :=
  ⟨_, fun σ' H' q => ⟨_, q.2, rfl, q.1⟩, h⟩
theorem r_iteNT {A B : Prop} (h : B) : if (!true) = true then A else B := h
theorem r_iteNF {A B : Prop} (h : A) : if (!false) = true then A else B := h
theorem r_isiT {p : Addr} {xs : List V} (h1 : H p = some (.tup xs)) (h : Q (.bl true) H) : rIsi K [.ref p, .ty "tuple"] H Q := r_isi (.ty "tuple") (.base (.tup h1)) (kit_ty (by decide +kernel)) h
theorem r_seqH (Mid : S → Hp → Prop) (h2 : ∀ σ G, Mid σ G → u D σ G) (h1 : (∀ σ G, Mid σ G → u D σ G) → t { D with nx := u D } σ H) : tSeq t u D σ H := h1 h2
theorem r_nx {f bk ct : S → Hp → Prop} {rt : VK} (h : f σ H) : Ends.nx { nx := f, rt := rt, bk := bk, ct := ct } σ H := h
theorem r_bk {f bk ct : S → Hp → Prop} {rt : VK} (h : bk σ H) : Ends.bk { nx := f, rt := rt, bk := bk, ct := ct } σ H := h
theorem r_ct {f bk ct : S → Hp → Prop} {rt : VK} (h : ct σ H) : Ends.ct { nx := f, rt := rt, bk := bk, ct := ct } σ H := h
theorem r_rt {f bk ct : S → Hp → Prop} {rt : VK} (h : rt v H) : Ends.rt { nx := f, rt := rt, bk := bk, ct := ct } v H := h
theorem r_iseqL {R : It → Hp → Prop} (h : te σ H fun x H1 => ∃ a, x = .ref a ∧ (∃ xs, SqL K H1 a xs) ∧ R (Itl K a) H1) : iSeqU K te σ H R := .inl h
theorem r_iseqT {R : It → Hp → Prop} (h : te σ H fun x H1 => ∃ a, x = .ref a ∧ (∃ xs, SqT K H1 a xs) ∧ R (Itt K a) H1) : iSeqU K te σ H R := .inr (.inl h)
theorem r_iseqS {R : It → Hp → Prop} (h : te σ H fun v H1 => ∃ x, v = .str x ∧ R (Its x) H1) : iSeqU K te σ H R := .inr (.inr h)
theorem r_yes {P : Bool → Hp → Prop} (h : P true H) : tYes σ H P := h
theorem r_rng1 {R : It → Hp → Prop} (h : tr σ H fun vs H1 => ∃ j : Int, vs = [.int j] ∧ -(2 ^ 62) ≤ j ∧ j < 2 ^ 62 ∧ R (Itr 0 j.toNat) H1) : iRng1 tr σ H R := h
theorem r_one {P : Int → Prop} (h1 : -(2 ^ 62) ≤ i ∧ i < 2 ^ 62) (h : P i) : ∃ j : Int, [V.int i] = [.int j] ∧ -(2 ^ 62) ≤ j ∧ j < 2 ^ 62 ∧ P j := ⟨i, rfl, h1.1, h1.2, h⟩
end
end Px

namespace Px
open PySem PySem.Spec PyProof.Rows L2
/-! ### how long what repr shows may be -/
structure Sm (n : Nat) (d : PyData) : Prop where
  sh : d.showable = true
  le : d.shown.length ≤ n
theorem Sm.mono {n m : Nat} {d : PyData} (h : Sm n d) (l : n ≤ m) : Sm m d := ⟨h.sh, Nat.le_trans h.le l⟩
theorem append_len (a b : Str) : (a ++ b).length = a.length + b.length := by
  show (a.cps ++ b.cps).size = a.cps.size + b.cps.size
  rw [Array.size_append]
theorem join_len (sep : Str) (n : Nat) : ∀ ts : List Str, (∀ t ∈ ts, t.length ≤ n) → (Str.join sep ts).length ≤ ts.length * (n + sep.length)
  | [], _ => by rw [join_nil]; exact Nat.zero_le _
  | [x], h => by
    rw [join_one]
    have := h x (by simp)
    simp
    omega
  | x :: y :: r, h => by
    rw [join_cons_cons, append_len, append_len]
    have h1 := h x (by simp)
    have h2 := join_len sep n (y :: r) fun t ht => h t (List.mem_cons_of_mem _ ht)
    have e : (x :: y :: r).length = (y :: r).length + 1 := rfl
    rw [e, Nat.add_mul, Nat.one_mul]
    omega
theorem lt_log {n : Nat} (h : n < 10 ^ 20) : n.log2 < 1920 := by
  by_cases z : n = 0
  · rw [z]; decide
  · exact (Nat.log2_lt z).mpr (Nat.lt_trans h (by decide))
theorem Sm.int {i : Int} (h : i.natAbs < 10 ^ 20) : Sm 21 (.int i) := by
  refine ⟨?_, ?_⟩
  · simp only [PyData.showable]; exact decide_eq_true (lt_log h)
  · simp only [PyData.shown]
    have := int_text_length_le10 (a := i) (k := 20) (by decide) h
    rw [PySem.ofString_length]
    exact this
theorem Sm.str {z : Str} (h : ∀ c ∈ z.cps.toList, c < 16 ^ 8) : Sm (10 * z.length + 2) (.str z) := by
  refine ⟨by simp only [PyData.showable], ?_⟩
  simp only [PyData.shown]
  exact PySem.StrLaws.reprText_len z h
theorem shownAll_le {n : Nat} : ∀ {ds : List PyData}, (∀ d ∈ ds, Sm n d) → PyData.showableAll ds = true ∧ (PyData.shownAll ds).length = ds.length ∧ ∀ t ∈ PyData.shownAll ds, t.length ≤ n
  | [], _ => ⟨by simp only [PyData.showableAll], by simp only [PyData.shownAll, List.length_nil], fun t h => by simp only [PyData.shownAll] at h; cases h⟩
  | d :: ds, h => by
    obtain ⟨h1, h2, h3⟩ := shownAll_le (ds := ds) fun e he => h e (List.mem_cons_of_mem _ he)
    have h0 := h d (by simp)
    refine ⟨?_, ?_, ?_⟩
    · simp only [PyData.showableAll, h0.sh, h1, Bool.and_self]
    · simp only [PyData.shownAll, List.length_cons, h2]
    · intro t ht
      simp only [PyData.shownAll] at ht
      rcases List.mem_cons.mp ht with e | e
      · rw [e]; exact h0.le
      · exact h3 t e
theorem Sm.list {n : Nat} {ds : List PyData} (h : ∀ d ∈ ds, Sm n d) : Sm (ds.length * (n + 2) + 2) (.list ds) := by
  obtain ⟨h1, h2, h3⟩ := shownAll_le h
  refine ⟨by simp only [PyData.showable]; exact h1, ?_⟩
  simp only [PyData.shown, PySem.listText_eq_join]
  have q := join_len (", " : Str) n _ h3
  rw [h2] at q
  rw [append_len, append_len]
  show 1 + _ + 1 ≤ _
  have e : (Str.ofString ", ").length = 2 := rfl
  rw [e] at q
  omega
theorem Sm.tuple {n : Nat} {ds : List PyData} (h : ∀ d ∈ ds, Sm n d) : Sm (ds.length * (n + 2) + 3) (.tuple ds) := by
  obtain ⟨h1, h2, h3⟩ := shownAll_le h
  refine ⟨by simp only [PyData.showable]; exact h1, ?_⟩
  simp only [PyData.shown, tupleText]
  have q := join_len (", " : Str) n _ h3
  rw [h2] at q
  rw [append_len, append_len]
  have e : (Str.ofString ", ").length = 2 := rfl
  rw [e] at q
  have e1 : (Str.ofString "(").length = 1 := rfl
  rw [e1]
  split
  · have e2 : (Str.ofString ",)").length = 2 := rfl
    rw [e2]; omega
  · have e2 : (Str.ofString ")").length = 1 := rfl
    rw [e2]; omega
theorem small_line {n : Nat} (h : n ≤ 16777216) : n ≤ sizeLine := by rw [sizeLine_eq]; exact h

/-! ### lists of ints and texts as one thing -/
/-- a text of these code points -/
def sOf (xs : List Int) : Str := ⟨(xs.map Int.toNat).toArray⟩
theorem sOf_len (xs : List Int) : (sOf xs).length = xs.length := by
  show (List.toArray (xs.map Int.toNat)).size = xs.length
  simp
theorem sOf_list (xs : List Int) : (sOf xs).cps.toList = xs.map Int.toNat := by simp [sOf]
theorem sOf_append (xs ys : List Int) : sOf xs ++ sOf ys = sOf (xs ++ ys) := by
  show (⟨_ ++ _⟩ : Str) = _
  unfold sOf
  simp
def Cps (xs : List Int) : Prop := ∀ x ∈ xs, 0 ≤ x ∧ x < 16 ^ 8
theorem toNat_inj : ∀ {xs ys : List Int}, Cps xs → Cps ys → xs.map Int.toNat = ys.map Int.toNat → xs = ys
  | [], [], _, _, _ => rfl
  | [], _ :: _, _, _, h => by simp at h
  | _ :: _, [], _, _, h => by simp at h
  | x :: xs, y :: ys, hx, hy, h => by
    simp only [List.map_cons, List.cons.injEq] at h
    have e := toNat_inj (fun z hz => hx z (List.mem_cons_of_mem _ hz)) (fun z hz => hy z (List.mem_cons_of_mem _ hz)) h.2
    have h1 := (hx x (by simp)).1
    have h2 := (hy y (by simp)).1
    have e2 : x = y := by omega
    rw [e, e2]
theorem sOf_inj {xs ys : List Int} (hx : Cps xs) (hy : Cps ys) : sOf xs = sOf ys ↔ xs = ys := by
  constructor
  · intro h
    have e := congrArg (fun z : Str => z.cps.toList) h
    simp only [sOf_list] at e
    exact toNat_inj hx hy e
  · intro h; rw [h]
/-- one item: an int, or a text of one sign -/
def itV (k : Bool) (x : Int) : V := if k = true then .str ⟨#[x.toNat]⟩ else .int x
/-- v is a list of these ints, or the text of these code points -/
def IsQ (H : Hp) (k : Bool) (v : V) (xs : List Int) : Prop := xs.length ≤ 100000 ∧ ((k = false ∧ ∃ a, v = .ref a ∧ H a = some (.lst (xs.map V.int))) ∨ (k = true ∧ v = .str (sOf xs) ∧ Cps xs))
/-- .. and, if it is a list, one that H does not know -/
def NewQ (H H' : Hp) (k : Bool) (v : V) (xs : List Int) : Prop := IsQ H' k v xs ∧ (∀ a, v = .ref a → H a = none)
theorem IsQ.same {H H' : Hp} {k : Bool} {v : V} {xs : List Int} (q : IsQ H k v xs) (e : Same H H') : IsQ H' k v xs := by
  obtain ⟨l, q⟩ := q
  refine ⟨l, ?_⟩
  rcases q with ⟨hk, a, hv, h⟩ | q
  · exact .inl ⟨hk, a, hv, e _ _ h⟩
  · exact .inr q
def dq (k : Bool) (xs : List Int) : PyData := if k = true then .str (sOf xs) else .list (xs.map PyData.int)
theorem dpAll_ints {K : PySem.W.Frag} {H : Hp} : ∀ xs : List Int, DpAll K H (xs.map V.int) (xs.map PyData.int)
  | [] => .nil
  | x :: xs => .cons (.int x) (dpAll_ints xs)
theorem IsQ.dp {K : PySem.W.Frag} {H : Hp} {k : Bool} {v : V} {xs : List Int} (q : IsQ H k v xs) : Dp K H v (dq k xs) := by
  obtain ⟨l, ⟨rfl, a, rfl, h⟩ | ⟨rfl, rfl, c⟩⟩ := q
  · exact .lst (ql h) (dpAll_ints xs)
  · exact .str _
theorem canLay_ints : ∀ xs : List Int, PyData.canLayAll0 (xs.map PyData.int) = true
  | [] => by simp only [List.map_nil, PyData.canLayAll0]
  | x :: xs => by simp only [List.map_cons, PyData.canLayAll0, PyData.canLay0, canLay_ints xs, Bool.and_self]
theorem depth_ints : ∀ xs : List Int, PyData.depthAll (xs.map PyData.int) = 0
  | [] => by simp only [List.map_nil, PyData.depthAll]
  | x :: xs => by simp only [List.map_cons, PyData.depthAll, PyData.depth, depth_ints xs, Nat.max_self]
theorem shaped_list_ints (xs : List Int) : SeqAt.shaped (.list (xs.map PyData.int)) = true := by
  unfold SeqAt.shaped
  simp only [PyData.canLay0, PyData.depth, canLay_ints, depth_ints]
  decide
theorem strOk_of {z : Str} (h : ∀ c ∈ z.cps.toList, c < 0x110000) : PyData.strOk z = true := by
  unfold PyData.strOk
  rw [Array.all_eq_true_iff_forall_mem]
  intro c hc
  exact decide_eq_true (h c (by simpa using hc))
theorem eqv_ints : ∀ xs ys : List Int, PyData.eqvAll (xs.map PyData.int) (ys.map PyData.int) = decide (xs = ys)
  | [], [] => by simp only [List.map_nil, PyData.eqvAll]; rfl
  | [], y :: ys => by simp only [List.map_nil, List.map_cons, PyData.eqvAll]; simp
  | x :: xs, [] => by simp only [List.map_nil, List.map_cons, PyData.eqvAll]; simp
  | x :: xs, y :: ys => by
    simp only [List.map_cons, PyData.eqvAll, PyData.eqv, eqv_ints xs ys]
    by_cases h : x = y <;> simp [h]

theorem dq_shaped {k : Bool} {xs : List Int} (h : k = true → ∀ x ∈ xs, x < 0x110000) : SeqAt.shaped (dq k xs) = true := by
  cases k with
  | false => exact shaped_list_ints xs
  | true =>
    unfold SeqAt.shaped dq
    rw [if_pos rfl]
    simp only [PyData.canLay0, PyData.depth]
    rw [strOk_of]
    · rfl
    · intro c hc
      rw [sOf_list] at hc
      obtain ⟨x, hx, rfl⟩ := List.mem_map.mp hc
      have := h rfl x hx
      omega
theorem dq_eqv {k : Bool} {xs ys : List Int} (hx : k = true → Cps xs) (hy : k = true → Cps ys) : PyData.eqv (dq k xs) (dq k ys) = decide (xs = ys) := by
  cases k with
  | false =>
    show PyData.eqv (.list _) (.list _) = _
    simp only [PyData.eqv, eqv_ints]
  | true =>
    show PyData.eqv (.str _) (.str _) = _
    simp only [PyData.eqv]
    have e := sOf_inj (hx rfl) (hy rfl)
    by_cases h : xs = ys
    · rw [h]; simp
    · rw [decide_eq_false h]
      exact beq_eq_false_iff_ne.mpr fun z => h (e.mp z)
theorem IsQ.len {H : Hp} {k : Bool} {v : V} {xs : List Int} (q : IsQ H k v xs) : xs.length ≤ 100000 := q.1
theorem IsQ.cps {H : Hp} {k : Bool} {v : V} {xs : List Int} (q : IsQ H k v xs) : k = true → Cps xs := fun e => by
  obtain ⟨_, ⟨hk, _⟩ | ⟨_, _, c⟩⟩ := q
  · rw [hk] at e; cases e
  · exact c
section
variable {K : PySem.W.Frag} {H : Hp} {Q : VK} {k : Bool} {v u : V} {xs ys : List Int} {i : Int}
theorem q_len (q : IsQ H k v xs) (h : Q (.int xs.length) H) : rLenU K [v] H Q := by
  obtain ⟨l, ⟨rfl, a, rfl, e⟩ | ⟨rfl, rfl, c⟩⟩ := q
  · have e2 : (xs.map V.int).length = xs.length := List.length_map ..
    exact r_lenUL (ql e) (by rw [e2]; exact h)
  · exact r_lenUS (by rw [sOf_len]; exact small_line (by omega)) (by rw [sOf_len]; exact h)
theorem q_ix {j : Nat} {x : Int} (q : IsQ H k v xs) (hj : i = (j : Int)) (hx : xs[j]? = some x) (h : Q (itV k x) H) : rIx K v (.int i) H Q := by
  subst hj
  obtain ⟨l, ⟨rfl, a, rfl, e⟩ | ⟨rfl, rfl, c⟩⟩ := q
  · exact r_ixL (ql e) (atI_nat (by rw [List.getElem?_map, hx]; rfl)) h
  · exact r_ixS (by rw [sOf_len]; exact small_line (by omega)) (atI_nat (by rw [sOf_list, List.getElem?_map, hx]; rfl)) h
theorem q_eqi {x y : Int} (hx : k = true → 0 ≤ x) (hy : k = true → 0 ≤ y) (h : Q (.bl (decide (x = y))) H) : rEqU K (itV k x) (itV k y) H Q := by
  cases k with
  | false => exact r_eqUI h
  | true =>
    refine r_eqUS ?_
    have e : decide ((⟨#[x.toNat]⟩ : Str) = ⟨#[y.toNat]⟩) = decide (x = y) := by
      have h1 := hx rfl
      have h2 := hy rfl
      by_cases z : x = y
      · subst z; simp
      · rw [decide_eq_false z]
        refine decide_eq_false fun w => z ?_
        simp at w
        omega
    rw [e]; exact h
theorem q_nei {x y : Int} (hx : k = true → 0 ≤ x) (hy : k = true → 0 ≤ y) (h : Q (.bl (!decide (x = y))) H) : rNeU K (itV k x) (itV k y) H Q := by
  cases k with
  | false => exact r_neUI h
  | true =>
    refine r_neUS ?_
    have e : decide ((⟨#[x.toNat]⟩ : Str) = ⟨#[y.toNat]⟩) = decide (x = y) := by
      have h1 := hx rfl
      have h2 := hy rfl
      by_cases z : x = y
      · subst z; simp
      · rw [decide_eq_false z]
        refine decide_eq_false fun w => z ?_
        simp at w
        omega
    rw [e]; exact h
theorem newq_list {H' : Hp} {p : Addr} (hp : H p = none) (l : xs.length ≤ 100000) (e : H' p = some (.lst (xs.map V.int))) : NewQ H H' false (.ref p) xs :=
  ⟨⟨l, .inl ⟨rfl, p, rfl, e⟩⟩, fun a ea => by cases ea; exact hp⟩
theorem newq_str {H' : Hp} (l : xs.length ≤ 100000) (c : Cps xs) : NewQ H H' true (.str (sOf xs)) xs := ⟨⟨l, .inr ⟨rfl, rfl, c⟩⟩, fun a ea => nomatch ea⟩
/-- a new list of ints at p, laid -/
theorem q_new {p : Addr} {vs : List V} (hp : H p = none) (l : xs.length ≤ 100000) (e : vs = xs.map V.int) : NewQ H (upd H p (.lst vs)) false (.ref p) xs := newq_list hp l (by rw [upd_same, e])
theorem Cps.sub {xs ys : List Int} (c : Cps xs) (h : ∀ x ∈ ys, x ∈ xs) : Cps ys := fun x hx => c x (h x hx)
/-- v[lo:hi] -/
theorem q_sl {lo hi : Option Int} {a b : Nat} (q : IsQ H k v xs) (ha : HT.sIx xs.length 0 lo = a) (hb : HT.sIx xs.length xs.length hi = b) (h : ∀ v' H', Same H H' → NewQ H H' k v' ((xs.drop a).take (b - a)) → Q v' H') : rSlU K v lo hi H Q := by
  have hl : ((xs.drop a).take (b - a)).length ≤ 100000 := by
    rw [List.length_take, List.length_drop]
    have := q.1
    omega
  obtain ⟨l, ⟨rfl, p, rfl, e⟩ | ⟨rfl, rfl, c⟩⟩ := q
  · refine r_slUL (ql e) fun p hp => h _ _ (same_new hp) (q_new hp hl ?_)
    unfold cutV
    rw [List.length_map, ha, hb, List.map_take, List.map_drop]
  · refine r_slUS (by rw [sOf_len]; exact small_line (by omega)) ?_
    have e : cutS (sOf xs) lo hi = sOf ((xs.drop a).take (b - a)) := by
      unfold cutS
      rw [sOf_len, ha, hb, sOf_list]
      unfold sOf
      rw [List.map_take, List.map_drop]
    rw [e]
    exact h _ _ (Same.refl H) (newq_str hl (c.sub fun x hx => List.mem_of_mem_drop (List.mem_of_mem_take hx)))
theorem q_rev {te : TE} {σ : S} (h : te σ H fun w H1 => IsQ H1 k w xs ∧ ∀ v' H', Same H1 H' → NewQ H1 H' k v' xs.reverse → Q v' H') : k = k → (∀ (P P' : VK), (∀ w H1, P w H1 → P' w H1) → te σ H P → te σ H P') → tRevU K te σ H Q := fun _ mono => by
  cases k with
  | false =>
    refine .inl (mono _ _ (fun w H1 ⟨q, h⟩ => ?_) h)
    obtain ⟨l, ⟨_, a, rfl, e⟩ | ⟨z, _⟩⟩ := q
    · exact ⟨a, _, rfl, ql e, fun p hp => h _ _ (same_new hp) (q_new hp (by rw [List.length_reverse]; exact l) (by rw [List.map_reverse]))⟩
    · cases z
  | true =>
    refine .inr (mono _ _ (fun w H1 ⟨q, h⟩ => ?_) h)
    obtain ⟨l, ⟨z, _⟩ | ⟨_, rfl, c⟩⟩ := q
    · cases z
    · refine ⟨sOf xs, rfl, by rw [sOf_len]; exact small_line (by omega), ?_⟩
      have e : revS (sOf xs) = sOf xs.reverse := by
        unfold revS
        rw [sOf_list]
        unfold sOf
        rw [List.map_reverse]
      rw [e]
      exact h _ _ (Same.refl H1) (newq_str (by rw [List.length_reverse]; exact l) (c.sub fun x hx => List.mem_reverse.mp hx))
theorem q_add (q1 : IsQ H k v xs) (q2 : IsQ H k u ys) (hl : xs.length + ys.length ≤ 100000) (h : ∀ v' H', Same H H' → NewQ H H' k v' (xs ++ ys) → Q v' H') : rAddU K v u H Q := by
  have hl' : (xs ++ ys).length ≤ 100000 := by rw [List.length_append]; exact hl
  obtain ⟨l1, ⟨rfl, a, rfl, e1⟩ | ⟨rfl, rfl, c1⟩⟩ := q1
  · obtain ⟨l2, ⟨_, b, rfl, e2⟩ | ⟨z, _⟩⟩ := q2
    · exact r_addUL e1 e2 (by rw [List.length_map, List.length_map]; exact small_line (by omega)) fun p hp => h _ _ (same_new hp) (q_new hp hl' (by rw [List.map_append]))
    · cases z
  · obtain ⟨l2, ⟨z, _⟩ | ⟨_, rfl, c2⟩⟩ := q2
    · cases z
    · refine r_addUS (by rw [sOf_len, sOf_len]; exact small_line (by omega)) ?_
      rw [sOf_append]
      exact h _ _ (Same.refl H) (newq_str hl' fun x hx => (List.mem_append.mp hx).elim (c1 x) (c2 x))
theorem q_eq (q1 : IsQ H k v xs) (q2 : IsQ H k u ys) (c1 : k = true → ∀ x ∈ xs, x < 0x110000) (c2 : k = true → ∀ x ∈ ys, x < 0x110000) (h : Q (.bl (decide (xs = ys))) H) : rEqU K v u H Q :=
  r_eqUD q1.dp q2.dp (dq_shaped c1) (dq_shaped c2) (by rw [dq_eqv q1.cps q2.cps]; exact h)
theorem q_ne (q1 : IsQ H k v xs) (q2 : IsQ H k u ys) (c1 : k = true → ∀ x ∈ xs, x < 0x110000) (c2 : k = true → ∀ x ∈ ys, x < 0x110000) (h : Q (.bl (!decide (xs = ys))) H) : rNeU K v u H Q :=
  r_neUD q1.dp q2.dp (dq_shaped c1) (dq_shaped c2) (by rw [dq_eqv q1.cps q2.cps]; exact h)
/-- for a, b in zip(v, u) -/
theorem q_zip {ta : TA} {R : It → Hp → Prop} {σ : S} (h : ta σ H fun vs H1 => ∃ v u, vs = [v, u] ∧ IsQ H1 k v xs ∧ IsQ H1 k u ys ∧ ∀ J : It, Walk J (min xs.length ys.length) (fun H => IsQ H k v xs ∧ IsQ H k u ys) (YPair (fun i => (xs[i]?).map (itV k)) fun i => (ys[i]?).map (itV k)) → R J H1)
    (mono : ∀ (P P' : List V → Hp → Prop), (∀ w H1, P w H1 → P' w H1) → ta σ H P → ta σ H P') : iZipU K ta σ H R := by
  cases k with
  | false =>
    refine .inl (mono _ _ (fun w H1 h => ?_) h)
    obtain ⟨v, u, rfl, q1, q2, g⟩ := h
    obtain ⟨l1, ⟨_, a, rfl, e1⟩ | ⟨z, _⟩⟩ := q1
    · obtain ⟨l2, ⟨_, b, rfl, e2⟩ | ⟨z, _⟩⟩ := q2
      · refine ⟨a, b, _, _, rfl, ql e1, ql e2, g _ ?_⟩
        have w := walk_zip (K := K) (a := a) (b := b) (xs := xs.map V.int) (ys := ys.map V.int) (n := min xs.length ys.length) (by rw [List.length_map, List.length_map])
        refine w.mono (fun H h => ?_) fun i H x H' _ _ y => ?_
        · obtain ⟨⟨_, ⟨_, a', ea, h1⟩ | ⟨z, _⟩⟩, ⟨_, ⟨_, b', eb, h2⟩ | ⟨z', _⟩⟩⟩ := h
          · cases ea; cases eb; exact ⟨ql h1, ql h2⟩
          · cases z'
          · cases z
          · cases z
        · obtain ⟨T, x1, x2, h1, h2, h3, h4, h5⟩ := y
          refine ⟨T, x1, x2, h1, h2, h3, ?_, ?_⟩
          · have z : (xs.map V.int)[i]? = some x1 := h4
            rw [List.getElem?_map] at z; exact z
          · have z : (ys.map V.int)[i]? = some x2 := h5
            rw [List.getElem?_map] at z; exact z
      · cases z
    · cases z
  | true =>
    refine .inr (mono _ _ (fun w H1 h => ?_) h)
    obtain ⟨v, u, rfl, q1, q2, g⟩ := h
    obtain ⟨l1, ⟨z, _⟩ | ⟨_, rfl, c1⟩⟩ := q1
    · cases z
    · obtain ⟨l2, ⟨z, _⟩ | ⟨_, rfl, c2⟩⟩ := q2
      · cases z
      · refine ⟨_, _, rfl, g _ ?_⟩
        have s1 : ∀ (zs : List Int) (i : Nat), sgn (sOf zs) i = (zs[i]?).map (itV true) := fun zs i => by
          unfold sgn
          rw [← Array.getElem?_toList, sOf_list, List.getElem?_map, Option.map_map]
          rfl
        have e1 : (sOf xs).cps.size = xs.length := sOf_len xs
        have e2 : (sOf ys).cps.size = ys.length := sOf_len ys
        rw [e1, e2]
        refine (walk_pairs (n := min xs.length ys.length) (f := sgn (sOf xs)) (g := sgn (sOf ys))).mono (fun _ _ => trivial) fun i H x H' _ _ y => ?_
        obtain ⟨T, x1, x2, h1, h2, h3, h4, h5⟩ := y
        exact ⟨T, x1, x2, h1, h2, h3, (s1 xs i).symm.trans h4, (s1 ys i).symm.trans h5⟩
end
end Px

namespace Px
open PySem PySem.Spec PyProof.Rows L2
/-! ### a law's end, by a contract that knows that no repr is under way -/
theorem hid_at {h : Heap} {H : Hp} {b : Addr} {o : Obj} (e : h.get? b = some o) (n : H b = none) : (hidT h H).get? b = some o := hidT_get e n
theorem law_core {P : Program} {w : World} {K : PySem.W.Frag} {mg mb : Str → Option Value} {k : Nat} {fa a : Addr} {fd : FuncData} {x : Str} {sp : Sp} {s₁ : Shared} {vs : List Value}
    (KX : K.In s₁.heap) (hns : s₁.heap.Ns mainGlobals mg) (hb : s₁.heap.Ns builtinsNs mb) (hbb : ∀ x : Str, x ≠ "__name__" → mb x = bootBuiltins x) (hlim : s₁.heap.NoLimit) (hg : s₁.gens = #[])
    (ha : s₁.heap.get? a = some { cls := .type "list", data := .seq vs.toArray }) (hr : Room k callerA)
    (F : ∀ base : Heap, K.In base → base.Ns mainGlobals mg → FnG P w K mg base CX0 k fa fd [x] sp) (hbind : ∀ (s : Shared) (u : Value), BindsTo s fd ⟨[u], []⟩ [(x, u)])
    (H : Hp) (hO : Only H) (hsp : sp [.ref a] H (fun v _ => v = .bl true) fun _ _ _ => False) (hok : HOk P w H s₁.heap) (hA : ∀ b, H b ≠ none → b = a) (hK : H a ≠ none → K.lookup a = none) :
    codeAny (model P w) callerA (.call (.ref fa) ⟨[.ref a], []⟩) (fun r s' => r = .ok (.ret (.bool true)) ∧ OldK s₁.heap s'.heap ∧ s'.os = s₁.os ∧ AllBare s'.gens) s₁ := by
  have only : ∀ {b : Addr} {o : Obj}, s₁.heap.get? b = some o → (b = a → False) → H b = none := fun {b o} e n => by
    cases q : H b with
    | none => rfl
    | some u => exact (n (hA b (by rw [q]; simp))).elim
  have noA : ∀ {b : Addr} {o : Obj} {es : Array DictEntry} {ep : Nat}, s₁.heap.get? b = some o → o.data = .dict es ep → H b = none := fun e d => only e fun z => by
    subst z
    rw [ha] at e
    cases e
    exact nomatch (show Data.seq vs.toArray _ = Data.dict _ _ from d)
  have nsK : ∀ {b : Addr} {m : Str → Option Value}, s₁.heap.Ns b m → (hidT s₁.heap H).Ns b m := fun ⟨o, es, ep, e, d, r⟩ => ⟨o, es, ep, hid_at e (noA e d), d, r⟩
  have hKb : K.In (hidT s₁.heap H) := fun b o e => hid_at (KX b o e) (by
    cases q : H b with
    | none => rfl
    | some u =>
      have e' : b = a := hA b (by rw [q]; simp)
      subst e'
      have z := hK (by rw [q]; simp)
      rw [z] at e
      cases e)
  have hM : Mod K mg (hidT s₁.heap H) := ⟨hKb, nsK hns, ⟨mb, nsK hb, hbb⟩, let ⟨mc, h1, h2⟩ := hlim; ⟨mc, nsK h1, h2⟩⟩
  have e0 : Env0 P w K mg (hidT s₁.heap H) callerA [] s₁ H := ⟨rfl, hM, fun b o e => of_hidT e, Nat.le_of_eq (hidT_size _ _), trivial, fun b hb => absurd (show b ∈ ([] : List Addr) from hb) (by simp), hok, .of_eq hg⟩
  have go := (F _ hKb (nsK hns)).run callerA [] s₁ H ⟨[.ref a], []⟩ [.ref a] [.ref a] _ _ rfl hr e0 (hbind s₁ (.ref a)) (.cons rfl .nil) hsp
  refine codeAny_mono go fun r s' h => ?_
  match r, h with
  | .error _, h => exact h.elim
  | .ok .next, h => exact h.elim
  | .ok .brk, h => exact h.elim
  | .ok .cont, h => exact h.elim
  | .ok (.ret u), ⟨v, H', os, bare, un, hok', r', q⟩ =>
    have q' : v = .bl true := q
    subst q'
    obtain rfl : u = Value.bool true := r'
    refine ⟨rfl, OldK.of_keep fun b o e => ?_, os, bare⟩
    rcases hO b with z | ⟨ob, xs, z⟩
    · exact un.keep b o e z (fun m => absurd (show b ∈ ([] : List Addr) from m) List.not_mem_nil) List.not_mem_nil
    · have h1 := (hok b _ z).1
      have h2 := (hok' b _ (un.frzs b ob _ z)).1
      rw [e] at h1
      cases h1
      exact h2
theorem law_go {P : Program} {w : World} {K : PySem.W.Frag} {mg mb : Str → Option Value} {k : Nat} {fa a : Addr} {fd : FuncData} {x : Str} {sp : Sp} {s₁ : Shared} {vs : List Value} {ns : List Int}
    (KX : K.In s₁.heap) (hns : s₁.heap.Ns mainGlobals mg) (hb : s₁.heap.Ns builtinsNs mb) (hbb : ∀ x : Str, x ≠ "__name__" → mb x = bootBuiltins x) (hlim : s₁.heap.NoLimit) (hg : s₁.gens = #[])
    (ha : s₁.heap.get? a = some { cls := .type "list", data := .seq vs.toArray }) (hi : IntsAre vs ns) (hl : ns.length ≤ sizeLine) (hr : Room k callerA)
    (F : ∀ base : Heap, K.In base → base.Ns mainGlobals mg → FnG P w K mg base CX0 k fa fd [x] sp) (hbind : ∀ (s : Shared) (u : Value), BindsTo s fd ⟨[u], []⟩ [(x, u)])
    (hsp : ∀ H : Hp, Only H → SqL K H a (ns.map V.int) → sp [.ref a] H (fun v _ => v = .bl true) fun _ _ _ => False) :
    codeAny (model P w) callerA (.call (.ref fa) ⟨[.ref a], []⟩) (fun r s' => r = .ok (.ret (.bool true)) ∧ OldK s₁.heap s'.heap ∧ s'.os = s₁.os ∧ AllBare s'.gens) s₁ := by
  have rv := vals_ints hi
  have core := law_core (mb := mb) KX hns hb hbb hlim hg ha hr F hbind
  cases hk : K.lookup a with
  | some o =>
    have e := KX a o hk
    rw [ha] at e
    cases e
    have hO : Only fun _ => none := fun _ => .inl rfl
    exact core _ hO (hsp _ hO (.inr ⟨_, vs.toArray, _, hk, rfl, rfl, rfl, by rw [List.size_toArray, hi.length]; exact hl, by simpa using rv⟩)) (fun b u z => nomatch (show (none : Option HO) = some u from z)) (fun b z => absurd rfl z) fun z => absurd rfl z
  | none =>
    let H0 : Hp := upd (fun _ => none) a (.frz { cls := .type "list", data := .seq vs.toArray } (.lst (ns.map V.int)))
    have at0 : ∀ b, b ≠ a → H0 b = none := fun b n => upd_ne n
    have hO : Only H0 := fun b => by
      by_cases q : b = a
      · subst q; exact .inr ⟨_, _, upd_same⟩
      · exact .inl (at0 b q)
    refine core H0 hO (hsp _ hO (.inl (.inr ⟨_, upd_same⟩))) (fun b u z => ?_) (fun b z => ?_) fun _ => hk
    · by_cases q : b = a
      · subst q
        have z' : HO.frz _ _ = u := Option.some.inj (upd_same.symm.trans z)
        subst z'
        exact ⟨ha, by rw [List.length_map]; exact hl, vs, _, rv, ha⟩
      · exact nomatch ((at0 b q).symm.trans z)
    · by_cases q : b = a
      · exact q
      · exact absurd (at0 b q) z
theorem walk_G {l : PySem.W.OpenLaw} {n k : Nat} {q : Program} {loose : List Str} {XP : (Str → Option Value) → Heap → Prop} {YP : World → Heap → Prop} {d : DefRec} {x : Str}
    (hn : l.most = some n) (hn2 : n ≤ sizeLine) (hdf : d.params.defaults = []) (hr : Room k callerA)
    (F : ∀ (w : World) (mg : Str → Option Value) (fa : Addr) (h : Heap), YP w h → h.Ns mainGlobals mg → mg d.name = some (.ref fa) →
      ∃ (K : PySem.W.Frag) (fd : FuncData) (sp : Sp), K.In h ∧ (∀ (s : Shared) (u : Value), BindsTo s fd ⟨[u], []⟩ [(x, u)]) ∧
        (∀ (H : Hp) (a : Addr) (ns : List Int), ns.length ≤ n → Only H → SqL K H a (ns.map V.int) → sp [.ref a] H (fun v _ => v = .bl true) fun _ _ _ => False) ∧
        ∀ base : Heap, K.In base → base.Ns mainGlobals mg → FnG l.prog w K mg base CX0 k fa fd [x] sp) :
    PySem.W.WalkO q loose XP YP l.row.toRowW d [] (fun f vs => PySem.call f vs) := by
  refine Att.attach_call hn hdf fun w s₀ s₁ mg mb fa o pm cd doc a vs ns G Y ho hd hcd hmg hobj hints hlen hg => ?_
  obtain ⟨K, fd, sp, KX, hb, hsp, hF⟩ := F w mg fa _ Y G.T.g hmg
  exact law_go KX G.T.g G.T.b G.T.builtins G.T.nolimit hg hobj hints (Nat.le_trans hlen hn2) hr hF hb fun H hO hS => hsp H a ns hlen hO hS
end Px

namespace Px
open PySem PySem.Spec PyProof.Rows L2 PySem.W
/-- n's last eight binary digits, as signs -/
def bin8 (n : Nat) : Str := ⟨#[48 + n / 128 % 2, 48 + n / 64 % 2, 48 + n / 32 % 2, 48 + n / 16 % 2, 48 + n / 8 % 2, 48 + n / 4 % 2, 48 + n / 2 % 2, 48 + n % 2]⟩
theorem fmt08b {n : Nat} (hn : n < 256) (t u : Tok) : Meets (Builtin.«int.__format__» ⟨[.int (n : Int) t, .str (PySem.Str.ofString "08b") u], []⟩) (fun _ R s => ∀ t' k, R (.ok (.ret (.str (bin8 n) t'))) { s with toks := k }) := by
  apply KPc.meets_of
  intro _ _ _ _ _ _ hq
  unfold Builtin.«int.__format__»
  refine wpAny_bind (wpAny_of_eq (a := (_, _)) rfl ?_)
  refine wpAny_bind (wpAny_of_eq (a := _) rfl ?_)
  kxf_if
  refine wpAny_bind (wpAny_typeNameOf (T := "str") (typeIs_str _ _ _) (by decide) fun _ => ?_)
  refine wpAny_bind (wpAny_of_eq (a := some _) rfl ?_)
  kxf_if
  kxf_if
  refine wpAny_bind (wpAny_typeNameOfCut_int ?_)
  (repeat kxf_if)
  refine KXf.ret_text ?he ?hl hq
  · clear hq
    revert n
    decide +kernel
  · clear hq
    revert n
    decide +kernel
def hexSign (d : Nat) : Nat := if d < 10 then 48 + d else 55 + d
/-- two hexadecimal digits, as signs -/
def hex2 (n : Nat) : Str := ⟨#[hexSign (n / 16), hexSign (n % 16)]⟩
theorem fmt02X {n : Nat} (hn : n < 256) (t u : Tok) : Meets (Builtin.«int.__format__» ⟨[.int (n : Int) t, .str (PySem.Str.ofString "02X") u], []⟩) (fun _ R s => ∀ t' k, R (.ok (.ret (.str (hex2 n) t'))) { s with toks := k }) := by
  apply KPc.meets_of
  intro _ _ _ _ _ _ hq
  unfold Builtin.«int.__format__»
  refine wpAny_bind (wpAny_of_eq (a := (_, _)) rfl ?_)
  refine wpAny_bind (wpAny_of_eq (a := _) rfl ?_)
  kxf_if
  refine wpAny_bind (wpAny_typeNameOf (T := "str") (typeIs_str _ _ _) (by decide) fun _ => ?_)
  refine wpAny_bind (wpAny_of_eq (a := some _) rfl ?_)
  kxf_if
  kxf_if
  refine wpAny_bind (wpAny_typeNameOfCut_int ?_)
  (repeat kxf_if)
  refine KXf.ret_text ?he ?hl hq
  · clear hq
    revert n
    decide +kernel
  · clear hq
    revert n
    decide +kernel
/-- {e:spec}, e a number below 256 -/
def tFmtB (g : Nat → Str) (te : TE) : TE := fun σ H Q => te σ H fun x H1 => ∃ n : Nat, x = .int n ∧ n < 256 ∧ Q (.str (g n)) H1
section
variable {X : Cx}
theorem pe_fmtB {e : Expr} {te : TE} {pos p1 p2 : Pos} {k : Nat} {spec : Str} {g : Nat → Str} (he : PE X e te) (hne : (spec.length == 0) = false) (hsz : spec.length ≤ sizeLine)
    (hg : ∀ n : Nat, n < 256 → ∀ t u, Meets (Builtin.«int.__format__» ⟨[.int (n : Int) t, .str spec u], []⟩) (fun _ R s => ∀ t' k, R (.ok (.ret (.str (g n) t'))) { s with toks := k })) :
    PE X (.FormattedValue e (-1) (some (.JoinedStr [.Constant (.str spec) k p1] p2)) pos) (tFmtB g te) := by
  refine ⟨fun pins s σ H Q I h => ?_⟩
  refine wpAny_FormattedValue_spec (thn (he.run pins s σ H _ I h) fun v s1 hv => ?_)
  obtain ⟨x, H1, I1, r1, n, rfl, hn, q⟩ := hv
  obtain ⟨t, rfl⟩ := r1
  refine wpAny_JoinedStr_one ?_
  refine thn ((pe_str (X := X) (x := spec)).run pins s1 σ H1 _ I1 (show tC (.str spec) σ H1 fun y H2 => y = .str spec ∧ H2 = H1 from ⟨rfl, rfl⟩)) fun r s2 h2 => ?_
  obtain ⟨y, H2, I2, r2, rfl, rfl⟩ := h2
  obtain ⟨tk, rfl⟩ := r2
  refine ⟨spec, tk, rfl, ?_⟩
  exact KXf.field_int rfl hne hsz (hg n hn t) fun t' k => ⟨.str (g n), H2, I2.tok k, ⟨_, rfl⟩, q⟩
end
end Px

namespace Px
open PySem PySem.Spec PyProof.Rows L2
/-! ### int(t, 2) -/
namespace Bn
open PySem.NumText PySem.Calls
def IsBit (c : Nat) : Prop := c = 48 ∨ c = 49
def binNum (l : List Nat) : Nat := l.foldl (fun a c => a * 2 + (c - 48)) 0
theorem toHex {c : Nat} (h : IsBit c) : L2.Hx.IsHex c := .inl (by rcases h with rfl | rfl <;> exact ⟨by decide, by decide⟩)
theorem dig {c : Nat} (h : IsBit c) : digit? c = some (c - 48) := by rcases h with rfl | rfl <;> rfl
theorem step2 {ds : Array Nat} {b : Bool} {c : Nat} (h : IsBit c) : PySem.NumText.step 2 (ds, b) c = some (ds.push (c - 48), true) := by rcases h with rfl | rfl <;> rfl
theorem fold2 : ∀ (cs : List Nat) (ds : Array Nat), (∀ c ∈ cs, IsBit c) → cs.foldlM (PySem.NumText.step 2) (ds, true) = some (cs.foldl (fun acc c => acc.push (c - 48)) ds, true)
  | [], _, _ => rfl
  | c :: cs, ds, h => by
    rw [List.foldlM_cons, step2 (h c (List.mem_cons_self ..))]
    exact fold2 cs (ds.push (c - 48)) fun d hd => h d (List.mem_cons_of_mem _ hd)
theorem digits2 {cs : List Nat} (h : ∀ c ∈ cs, IsBit c) (hne : cs ≠ []) : digits? 2 cs = some (cs.foldl (fun acc c => acc.push (c - 48)) #[]) := by
  match cs, hne with
  | c :: cs, _ =>
    unfold digits?
    rw [List.foldlM_cons, step2 (h c (List.mem_cons_self ..))]
    show (List.foldlM (PySem.NumText.step 2) ((#[] : Array Nat).push (c - 48), true) cs).bind _ = _
    rw [fold2 cs _ fun d hd => h d (List.mem_cons_of_mem _ hd)]
    rfl
theorem push2 : ∀ (cs : List Nat) (ds : Array Nat), (cs.foldl (fun acc c => acc.push (c - 48)) ds).foldl (fun acc d => acc * 2 + d) 0 = cs.foldl (fun a c => a * 2 + (c - 48)) (ds.foldl (fun acc d => acc * 2 + d) 0)
  | [], _ => rfl
  | c :: cs, ds => by
    rw [List.foldl_cons, push2 cs (ds.push (c - 48)), List.foldl_cons]
    simp
theorem based2 {cs : List Nat} (h : ∀ c ∈ cs, IsBit c) : based 2 cs = (2, false, cs) := by
  match cs, h with
  | [], _ => rfl
  | [a], h => rcases h a (by simp) with rfl | rfl <;> rfl
  | a :: c :: r, h =>
    rcases h a (by simp) with rfl | rfl <;> rcases h c (by simp) with rfl | rfl <;> rfl
theorem read2 {cs : List Nat} (h : ∀ c ∈ cs, IsBit c) (hne : cs ≠ []) : (int_private% "readNumeral") 0 2 cs = (int_private% "Numeral.value") ((binNum cs : Nat) : Int) := by
  have hx : ∀ c ∈ cs, L2.Hx.IsHex c := fun c hc => toHex (h c hc)
  refine (readNumeral_eq 0 2 cs).trans ?_
  rw [L2.Hx.dropB hx, L2.Hx.signH hx]
  show judge 0 false (based 2 cs).1 (based 2 cs).2.1 (digits? (based 2 cs).1 (((based 2 cs).2.2.reverse.dropWhile blank).reverse)) = _
  rw [based2 h]
  show judge 0 false 2 false (digits? 2 ((cs.reverse.dropWhile blank).reverse)) = _
  rw [L2.Hx.dropB (cs := cs.reverse) fun c hc => hx c (List.mem_reverse.mp hc), List.reverse_reverse, digits2 h hne]
  show (int_private% "Numeral.value") (((cs.foldl (fun acc c => acc.push (c - 48)) (#[] : Array Nat)).foldl (fun acc d => acc * 2 + d) 0 : Nat) : Int) = _
  rw [push2]
  rfl
set_option maxHeartbeats 4000000 in
theorem gives2 {x : PySem.Str} {u t : Tok} (hl : x.length ≤ 640) (h : ∀ c ∈ x.cps.toList, IsBit c) (hne : x.cps.toList ≠ []) :
    Gives (Builtin.«int.__new__» ⟨[.type "int", .str x u, .int 2 t], []⟩) (.int ((binNum x.cps.toList : Nat) : Int)) :=
  .of_wp fun M A E s Q hQ => by
    obtain ⟨hp, g, d, tk, os⟩ := s
    have c1 := F.conv_sub_int
    have c2 := F.madeHere_int
    have c3 : typeOf (.str x u) = pure (.type "str") := rfl
    obtain ⟨e1, e2⟩ := L2.Hx.seen_hex fun c hc => toHex (h c hc)
    have key : L2.Hx.Hid ((numSeenOf x).length ≤ 640 ∧ (int_private% "readNumeral") 0 2 (numSeenOf x) = (int_private% "Numeral.value") ((binNum x.cps.toList : Nat) : Int) ∧ ((numSeenOf x).length == (numTextOf x).length) = true) := by
      refine ⟨?_, ?_, ?_⟩
      · rw [e2, Array.length_toList]; exact hl
      · rw [e2]; exact read2 h hne
      · rw [e1, e2]; exact beq_self_eq_true _
    clear e1 e2 hl hne h
    repeat (any_goals (first
      | assumption
      | ((with_reducible show wpAny _ _ ((int_private% "intFromText") _ _ _) _ _ _);
          refine L2.Hx.wp_textB key.out.1 key.out.2.1 key.out.2.2 ?_)
      | wp_step))
    all_goals first | exact ⟨_, rfl, hQ⟩ | skip
end Bn
/-- int(t, 2) -/
def rIntBin : List V → Hp → VK → Prop := fun xs H Q => ∃ x : Str, xs = [.str x, .int 2] ∧ x.cps.toList ≠ [] ∧ x.length ≤ 640 ∧ (∀ c ∈ x.cps.toList, Bn.IsBit c) ∧ Q (.int ((Bn.binNum x.cps.toList : Nat) : Int)) H
theorem call_int_bin {X : Cx} : CallR X (.type "int") rIntBin := by
  intro pins s σ H xs us Q I r h
  obtain ⟨x, rfl, hne, hl, hx, q⟩ := h
  obtain ⟨u, w', rfl, r1, r2⟩ := vals2 r
  obtain ⟨t1, rfl⟩ := r1
  obtain ⟨t2, rfl⟩ := r2
  exact callType_new F.called_int F.newNe_int (L2.Hx.typeCall_int_2 _ _) (L2.Hx.newCall_int_2 _ _) (fun obj => F.initArgs_range_2 obj _ _) F.entry_int_new (Bn.gives2 hl hx hne).meets
    (show (Made.int ((Bn.binNum x.cps.toList : Nat) : Int)).post _ s from ⟨rfl, ⟨.int ((Bn.binNum x.cps.toList : Nat) : Int), H, I.tok _, ⟨_, rfl⟩, q⟩⟩)
end Px

namespace Px
open PySem PySem.Spec PyProof.Rows L2 PpSet
/-! ### sets of texts; len({x for x in text}) -/
/-- the members so far, and one more -/
def putT (l : List Str) (k : Str) : List Str := if k ∈ l then l else k :: l
def SetT (P : Program) (w : World) (h : Heap) (a : Addr) (l : List Str) : Prop := h.SetOf (strKind P w) a (fun k => decide (k ∈ l)) l.length
theorem setOf_at {P : Program} {w : World} {h h' : Heap} {a : Addr} {S : Str → Bool} {n : Nat} (R : h.SetOf (strKind P w) a S n) (k : ∀ o, h.get? a = some o → h'.get? a = some o) : h'.SetOf (strKind P w) a S n := by
  obtain ⟨o, es, ep, t, ho, r⟩ := R
  exact ⟨o, es, ep, t, k o ho, r⟩
theorem setOf_congr {P : Program} {w : World} {h : Heap} {a : Addr} {S S' : Str → Bool} {n n' : Nat} (R : h.SetOf (strKind P w) a S n) (e : ∀ k, S' k = S k) (en : n' = n) : h.SetOf (strKind P w) a S' n' := by
  have z : S' = S := funext e
  rw [z, en]
  exact R
def SetTO (P : Program) (w : World) (a : Addr) (l : List Str) : HO := .ext fun h => SetT P w h a l
theorem setTO_new {P : Program} {w : World} {H : Hp} {h : Heap} {a : Addr} {l : List Str} (R : SetT P w h a l) : ObjOk P w H h a (SetTO P w a l) := by
  have R' := R
  obtain ⟨o, _, _, _, ho, _⟩ := R'
  exact ⟨R, ⟨o, ho⟩, fun h1 h2 p k => setOf_at p k⟩
theorem setT_fresh {h : Heap} (P : Program) (w : World) (led : Bool) : SetT P w (h.push { cls := .type "set", dict := none, data := .set #[] 0 (.fresh 0 0 led) }) h.objs.size [] :=
  setOf_congr ((setObjOf_fresh (knd := strKind P w) led).setOf (Heap.get?_push_size _ rfl) (by decide)) (fun k => by simp) rfl
section
variable {X : Cx} {pins : List (Addr × Obj)} {σ : L2.St} {H : Hp} {s : Shared}
theorem setTO_get {a : Addr} {l : List Str} (I : Inv X pins σ H s) (ha : H a = some (SetTO X.prog X.w a l)) : SetT X.prog X.w s.heap a l := (I.hok a _ ha).1
theorem addT_ok {E : Value → Shared → Prop} {D : Addr} {l : List Str} {y : Str} {t : Tok} {Q : Value → Shared → Prop} (I : Inv X pins σ H s) (hD : H D = some (SetTO X.prog X.w D l)) (room : l.length + 1 < scanBound)
    (k : ∀ s', Inv X pins σ (upd H D (SetTO X.prog X.w D (putT l y))) s' → Q .none s') : wpAny (model X.prog X.w) X.A (call (.builtin "set.add") [.ref D, .str y t]) Q E s := by
  refine call_set_add (knd := strKind X.prog X.w) (k := y) (strKind_is _ _ _ _) rfl (setTO_get I hD) room fun h' sb new => ?_
  have new' : SetT X.prog X.w h' D (putT l y) := by
    refine setOf_congr new (fun j => ?_) ?_
    · unfold putT
      split
      · rename_i m
        by_cases e : j = y
        · subst e; simp [m]
        · simp [e]
      · by_cases e : j = y <;> simp [e]
    · unfold putT
      by_cases m : y ∈ l
      · rw [if_pos m, if_pos (decide_eq_true m)]
      · rw [if_neg m, if_neg (by simpa using m)]
        rfl
  have there : ∃ u, h'.get? D = some u := by
    obtain ⟨o, _, _, _, ho, _⟩ := new'
    exact ⟨o, ho⟩
  exact k _ (I.write (e := D) (t' := s.toks + 1) (by rw [hD]; trivial) (.inl rfl) (fun b u nb hu => (sb.2 b nb).trans hu) there (setTO_new new'))
end
section
variable {X : Cx}
/-- {elt for target in iter if ..}, elt a text: D the new set -/
def tScT (P : Program) (w : World) (wi : TI) (g : TG) (tt : TT) (te : TE) (vs : List Nat) : TE := fun σ H Q => wi σ H fun J H1 => ∀ D, H1 D = none →
  ∃ W : Nat → Nat → Hp → Prop, (∃ m, W 0 m (upd H1 D (SetTO P w D []))) ∧ ∀ i m H, W i m H → (J.stop i H ∧ Q (.ref D) H) ∨
    (J.go i H ∧ ∃ Nx : Hp → Prop, (∀ H', Nx H' → ∃ m', m' < m ∧ W (i + 1) m' H') ∧ ∀ x H', J.yld i H x H' →
      g x (wipe σ vs) H' fun σ2 H2 => wipe σ2 vs = wipe σ vs ∧ tt σ2 H2 fun b H3 =>
        if b = true then te σ2 H3 fun y H4 => ∃ (z : Str) (l : List Str), y = .str z ∧ H4 D = some (SetTO P w D l) ∧ l.length + 1 < scanBound ∧ Nx (upd H4 D (SetTO P w D (putT l z))) else Nx H3)
abbrev BlkAll (X : Cx) (scope : Scope) (p : Cx → Prop) : Prop := ∀ (s : Shared) (H : Hp) (C : Addr) (cl : List (PySem.Str × Addr)) (fp : List Addr), p (X.blk s H scope (compEnvC scope cl C X.env) fp)
theorem pe_scT {elt tg iter : Expr} {ifs : List Expr} {scope : Scope} {own : List (PySem.Str × Nat)} {pos : Pos} {wi : TI} {g : TG} {tt : TT} {te : TE} (hc : X.calm = true) (hN : X.N.Nodup) (hi : PI X tg iter wi)
    (ok : BlkOk X.N X.env.scope scope own) (hg : BlkAll X scope fun Y => PG Y tg g) (ht : BlkAll X scope fun Y => PTs Y ifs tt) (he : BlkAll X scope fun Y => PE Y elt te) (hs : ∀ x, foldedSetIterable iter X.env x = pure x := by intro _; rfl) :
    PE X (.SetComp elt [⟨tg, iter, ifs, 0⟩] scope pos) (tScT X.prog X.w wi g tt te (own.map (·.2))) := by
  refine ⟨fun pins s σ H Q I h => ?_⟩
  rw [eval_SetComp]
  have closed : ∀ y ∈ scope.names, y.2 = .free → ∃ c, X.env.cells.lookup y.1 = some c := by
    intro y hy e
    exact (ok.free y hy e).elim (fun k => I.ok.has _ (.inl k)) fun k => I.ok.has _ (.inr k)
  refine wpAny_comprehension_free (use := none) rfl hs (closure_ok closed) ok.kind (fun y hy e => by rw [ok.uniq y hy, e]) ?_
  refine thn (hi.run pins s σ H _ I h) fun _ s1 hx => thn hx ?_
  rintro _ s2 ⟨it, fp, tn, J, H2, rfl, I2, T, st2, f2, q⟩
  refine newSet_ok (newEnv_comp ?_)
  generalize hO : ({ cls := .type "set", dict := none, data := .set #[] 0 (.fresh 0 0 (!X.w.params.followText "set-order")) } : Obj) = O
  generalize hD : s2.heap.objs.size = D
  obtain ⟨W, ⟨m0, w0⟩, turn⟩ := q D (I2.hok.fresh (Nat.le_of_eq hD))
  have hO0 : ∀ {b : Addr} {o : Obj}, s2.heap.get? b = some o → (s2.heap.push O).get? b = some o := fun e => Heap.get?_push_of_some _ e
  generalize hH3 : upd H2 D (SetTO X.prog X.w D []) = H3 at w0
  generalize hs3 : ({ s2 with heap := s2.heap.push O } : Shared) = s3
  have hp3 : s3.heap = s2.heap.push O := by rw [← hs3]
  have I3 : Inv X pins σ H3 s3 := by
    subst hs3 hH3 hD hO
    exact I2.laid (t' := s2.toks) (fun b o e => Heap.get?_push_of_some _ e) (Nat.le_refl _) (setTO_new (setT_fresh X.prog X.w _))
  have low : ∀ b ∈ fp, b < D := fun b hb => by
    obtain ⟨o, e, _⟩ := T.obj _ _ st2 b hb
    rw [← hD]
    exact Heap.lt_size e
  have f3 : ∀ b ∈ fp, FpOk X pins H3 b ∧ b < s3.heap.objs.size := fun b hb => by
    have hlt := low b hb
    refine ⟨⟨?_, (f2 b hb).2⟩, ?_⟩
    · rw [← hH3, upd_ne (Nat.ne_of_lt hlt)]
      exact (f2 b hb).1
    · rw [hp3, Heap.size_push, hD]
      exact Nat.lt_succ_of_lt hlt
  have st3 : tn 0 s3.heap := T.keep _ _ _ st2 fun b _ o e => by rw [hp3]; exact hO0 e
  have I4 := block_start I3 ok hN f3
  have pg := hg s3 H3 s3.heap.objs.size (cellsFrom (s3.heap.objs.size + 1) scope.names (cloFrom X.env.cells scope.names [])) fp
  have pt := ht s3 H3 s3.heap.objs.size (cellsFrom (s3.heap.objs.size + 1) scope.names (cloFrom X.env.cells scope.names [])) fp
  have pe := he s3 H3 s3.heap.objs.size (cellsFrom (s3.heap.objs.size + 1) scope.names (cloFrom X.env.cells scope.names [])) fp
  show codeAny _ _ (.compStart (.SetComp elt [⟨tg, iter, ifs, 0⟩] scope pos) 0 (.ref it) (.ref D) (compEnvC scope (cellsFrom (s3.heap.objs.size + 1) scope.names (cloFrom X.env.cells scope.names [])) s3.heap.objs.size X.env))
    (compPost (model X.prog X.w) X.A X.xe none _ (.ref D) s3.heap.objs.size) { s3 with heap := pushCells (s3.heap.push { cls := .type "dict", data := .dict #[] }) scope.names }
  have cL : (compEnvC scope (cellsFrom (s3.heap.objs.size + 1) scope.names (cloFrom X.env.cells scope.names [])) s3.heap.objs.size X.env).locals = s3.heap.objs.size := rfl
  generalize compEnvC scope (cellsFrom (s3.heap.objs.size + 1) scope.names (cloFrom X.env.cells scope.names [])) s3.heap.objs.size X.env = ce at I4 pg pt pe cL ⊢
  have st4 : tn 0 (pushCells (s3.heap.push { cls := .type "dict", data := .dict #[] }) scope.names) := T.keep _ _ _ st3 fun b _ o e => pushCells_keeps _ _ _ _ (Heap.get?_push_of_some _ e)
  generalize hs4 : ({ s3 with heap := pushCells (s3.heap.push { cls := .type "dict", data := .dict #[] }) scope.names } : Shared) = s4 at I4 ⊢
  replace st4 : tn 0 s4.heap := by rw [← hs4]; exact st4
  have still : ∀ {σ' : L2.St} {H' : Hp} {s' : Shared}, Inv (X.blk s3 H3 scope ce fp) [] σ' H' s' → (∀ b ∈ fp, H' b = none) → ∀ b ∈ fp, FpOk (X.blk s3 H3 scope ce fp) [] H' b := by
    intro σ' H' s' I' hn b hb
    exact ⟨hn b hb, (I'.ok.exf b hb).1, I'.ok.exfs b hb, .inl hb, fun x c e => (I'.ok.exf b hb).2 x c e, fun p hp => absurd (show p ∈ ([] : List (Addr × Obj)) ++ [] from hp) (by simp)⟩
  refine codeAny_compStart_set ?_ (T.self X.A 0 _ _ _ st4 ?_)
  all_goals
    refine compLoopS_any (fun n s' => ∃ i H', Inv (X.blk s3 H3 scope ce fp) [] (wipe σ (own.map (·.2))) H' s' ∧ tn i s'.heap ∧ (∀ b ∈ fp, H' b = none) ∧ W i n H') ?_ m0 ⟨0, H3, I4, st4, fun b hb => (f3 b hb).1.1, w0⟩
    rintro n s5 ⟨i, H5, I5, st5, n5, w5⟩
    rcases turn i n H5 w5 with ⟨stop, qq⟩ | ⟨go, Nx, hNx, step⟩
    · refine thnF (T.done (X.blk s3 H3 scope ce fp) rfl rfl rfl hc i [] s5 _ H5 (fun _ _ => False) I5 (still I5 n5) st5 stop) ?_
      rintro r s6 ⟨rfl, I6⟩
      have I7 : Inv X pins σ H5 s6 := I3.call' (ch := fp) I6.os I6.base I6.hok I6.bare fun b hb =>
        let z := (f3 b hb).1
        ⟨z.2.2.2.1, z.2.1, z.2.2.2.2.1, z.2.2.2.2.2⟩
      have nC : H5 s3.heap.objs.size = none := by
        rw [← cL]
        exact I6.free
      obtain ⟨m, hn, _⟩ := I6.loc
      replace hn : s6.heap.Ns s3.heap.objs.size m := by rw [← cL]; exact hn
      obtain ⟨f0, f1, f2', f3', f4, f5⟩ := I3.fpOk (Nat.le_refl _) nC
      exact ⟨m, hn, fun h'' sb => ⟨.ref D, H5, I7.turned (t' := s6.toks) (fun b o hb e => (sb.2 b hb).trans e) f0 f1 f3' f4 f5, rfl, qq⟩⟩
    · refine thnF (T.item (X.blk s3 H3 scope ce fp) rfl rfl rfl hc i [] s5 _ H5 (fun _ _ => False) I5 (still I5 n5) st5 go) ?_
      rintro r s6 ⟨u, rfl, h6⟩
      refine thnF h6 ?_
      rintro _ s7 ⟨x, H7, I7, r7, y7, st7, n7⟩
      refine thnF (pg.run _ s7 _ H7 x u _ (I7.pinned (still I7 n7) (T.obj _ _ st7)) r7 (step x H7 y7)) ?_
      rintro _ s8 ⟨σ8, H8, I8, hw8, q8⟩
      refine thnF (pt.run _ s8 σ8 H8 _ I8 q8) ?_
      rintro b s9 ⟨H9, I9, q9⟩
      have fin : ∀ {s' : Shared} {H' : Hp}, Inv (X.blk s3 H3 scope ce fp) ([] ++ pinsAt fp s7.heap) σ8 H' s' → Nx H' →
          ∃ m, m < n ∧ ∃ i H', Inv (X.blk s3 H3 scope ce fp) [] (wipe σ (own.map (·.2))) H' s' ∧ tn i s'.heap ∧ (∀ b ∈ fp, H' b = none) ∧ W i m H' := by
        intro s' H' I' nx
        obtain ⟨m', hm, w'⟩ := hNx H' nx
        have kept : ∀ b ∈ fp, ∀ o, s7.heap.get? b = some o → s'.heap.get? b = some o ∧ H' b = none := by
          intro b hb o e
          have z := I'.pin (b, o) (List.mem_append_right _ (List.mem_append_right _ (mem_pinsAt hb e)))
          exact ⟨z.1, z.2.1⟩
        refine ⟨m', hm, i + 1, H', (I'.unpinned (pins := [])).weak (by rw [← hw8, wipe_length]) (fun j v e => ?_), T.keep _ _ _ st7 fun b hb o e => (kept b hb o e).1, ?_, w'⟩
        · rw [← hw8] at e
          exact (wipe_some e).1
        · intro b hb
          obtain ⟨o, e, _⟩ := T.obj _ _ st7 b hb
          exact (kept b hb o e).2
      cases b with
      | false => exact fin I9 q9
      | true =>
        refine thnF (pe.run _ s9 σ8 H9 _ I9 q9) ?_
        rintro z s10 ⟨yv, H10, I10, r10, zz, l0, rfl, hD10, room, nx⟩
        obtain ⟨tz, rfl⟩ := r10
        exact addT_ok (X := X.blk s3 H3 scope ce fp) I10 hD10 room fun s11 I11 => fin I11 nx
def rLenT (P : Program) (w : World) : List V → Hp → VK → Prop := fun xs H Q => ∃ a l, xs = [.ref a] ∧ H a = some (SetTO P w a l) ∧ Q (.int (l.length : Nat)) H
theorem call_lenT : CallR X (.builtin "len") (rLenT X.prog X.w) := by
  intro pins s σ H xs us Q I r h
  obtain ⟨a, l, rfl, ha, q⟩ := h
  cases r with
  | cons r0 r1 =>
    cases r1
    cases r0
    obtain ⟨o, es, ep, t, ho, hex, hd, _, _, hb, hf, hn⟩ := setTO_get I ha
    have big : scanBound < 2 ^ 62 := by decide
    refine call_len_set ho hex hd hf (by omega) ⟨.int (l.length : Nat), H, I.tok _, ⟨_, by rw [hn]⟩, q⟩
end
def uniq (l : List Nat) : List Str := l.foldl (fun a c => putT a ⟨#[c]⟩) []
theorem putT_len (l : List Str) (k : Str) : (putT l k).length ≤ l.length + 1 := by
  unfold putT
  split
  · omega
  · exact Nat.le_refl _
theorem uniq_take {l : List Nat} {i c : Nat} (h : l[i]? = some c) : uniq (l.take (i + 1)) = putT (uniq (l.take i)) ⟨#[c]⟩ := by
  unfold uniq
  rw [List.take_add_one, h, List.foldl_append]
  rfl
theorem uniq_len : ∀ (l : List Nat), (uniq l).length ≤ l.length := by
  intro l
  have h : ∀ (l : List Nat) (a : List Str), (l.foldl (fun a c => putT a ⟨#[c]⟩) a).length ≤ a.length + l.length := by
    intro l
    induction l with
    | nil => intro a; exact Nat.le_refl _
    | cons c r ih =>
      intro a
      have h1 := ih (putT a ⟨#[c]⟩)
      have h2 := putT_len a ⟨#[c]⟩
      simp only [List.foldl_cons, List.length_cons]
      omega
  have z := h l []
  rw [List.length_nil, Nat.zero_add] at z
  exact z
theorem uniq_mem : ∀ (l : List Nat) (c : Nat), (⟨#[c]⟩ : Str) ∈ uniq l ↔ c ∈ l := by
  have h : ∀ (l : List Nat) (a : List Str) (c : Nat), (⟨#[c]⟩ : Str) ∈ l.foldl (fun a c => putT a ⟨#[c]⟩) a ↔ ((⟨#[c]⟩ : Str) ∈ a ∨ c ∈ l) := by
    intro l
    induction l with
    | nil => intro a c; simp
    | cons d r ih =>
      intro a c
      simp only [List.foldl_cons, List.mem_cons]
      rw [ih]
      unfold putT
      split
      · rename_i m
        constructor
        · rintro (h | h)
          · exact .inl h
          · exact .inr (.inr h)
        · rintro (h | rfl | h)
          · exact .inl h
          · exact .inl m
          · exact .inr h
      · simp only [List.mem_cons, Str.mk.injEq, Array.mk.injEq, List.cons.injEq, and_true]
        constructor
        · rintro ((h | h) | h)
          · exact .inr (.inl h)
          · exact .inl h
          · exact .inr (.inr h)
        · rintro (h | h | h)
          · exact .inl (.inr h)
          · exact .inl (.inl h)
          · exact .inr h
  intro l c
  rw [show uniq l = l.foldl (fun a c => putT a ⟨#[c]⟩) [] from rfl, h]
  simp
/-- every sign once: as many members as signs -/
theorem uniq_nodup : ∀ {l : List Nat}, l.Nodup → (uniq l).length = l.length := by
  intro l
  have h : ∀ (r l : List Nat), (l ++ r).Nodup → (r.foldl (fun a c => putT a ⟨#[c]⟩) (uniq l)).length = (uniq l).length + r.length := by
    intro r
    induction r with
    | nil => intro l _; rfl
    | cons c r ih =>
      intro l n
      have n' : ((l ++ [c]) ++ r).Nodup := by simpa using n
      have hc : c ∉ l := fun m => by
        have := (List.nodup_append.mp n).2.2 c m c (by simp)
        exact this rfl
      have e : uniq (l ++ [c]) = putT (uniq l) ⟨#[c]⟩ := by
        unfold uniq
        rw [List.foldl_append]
        rfl
      have z := ih (l ++ [c]) n'
      rw [e] at z
      rw [List.foldl_cons, z]
      unfold putT
      rw [if_neg (fun m => hc ((uniq_mem l c).mp m))]
      simp only [List.length_cons]
      omega
  intro n
  have z := h l [] n
  simpa [uniq] using z
/-- len({x for x in e}), e a text; i: x's place -/
def tDist (i : Nat) (te : TE) : TE := fun σ H Q => i < σ.length ∧ te σ H fun v H1 => ∃ z : Str, v = .str z ∧ z.length ≤ 1000 ∧ ∀ H2, Same H1 H2 → Q (.int ((uniq z.cps.toList).length : Nat)) H2
theorem pe_distinct {X : Cx} {e : Expr} {i : Nat} {te : TE} (hm : ∀ (σ : L2.St) (H : Hp) (P P' : VK), (∀ w H1, P w H1 → P' w H1) → te σ H P → te σ H P')
    (h : PE X e (tCB (rLenT X.prog X.w) (tCons (tScT X.prog X.w (iSeqU X.K te) (gName i) tYes (tVar i) [i]) tNil))) : PE X e (tDist i te) := by
  refine ⟨fun pins s σ H Q I hq => h.run pins s σ H Q I ?_⟩
  obtain ⟨hi, hq⟩ := hq
  show iSeqU X.K te σ H _
  refine .inr (.inr (hm σ H _ _ ?_ hq))
  rintro v H1 ⟨z, rfl, hz, q⟩
  refine ⟨z, rfl, fun D hD => ?_⟩
  have hzl : z.cps.toList.length ≤ 1000 := by rw [Array.length_toList]; exact hz
  refine ⟨fun j m H => m = z.cps.size - j ∧ j ≤ z.cps.size ∧ H D = some (SetTO X.prog X.w D (uniq (z.cps.toList.take j))) ∧ Same H1 H, ⟨_, rfl, Nat.zero_le _, upd_same, same_new hD⟩, ?_⟩
  rintro j m H2 ⟨rfl, hj, hD2, s2⟩
  by_cases hlt : j < z.cps.size
  · refine .inr ⟨hlt, fun H' => j + 1 ≤ z.cps.size ∧ H' D = some (SetTO X.prog X.w D (uniq (z.cps.toList.take (j + 1)))) ∧ Same H1 H', fun H' p => ⟨_, by omega, rfl, p⟩, ?_⟩
    rintro x H' ⟨rfl, c, hc, rfl⟩
    have hw : i < (wipe σ [i]).length := by rw [wipe_length]; exact hi
    refine ⟨?_, _, by rw [List.getElem?_set_self hw], ?_⟩
    · simp [wipe, List.set_set]
    · have hc' : z.cps.toList[j]? = some c := by rw [Array.getElem?_toList]; exact hc
      refine ⟨⟨#[c]⟩, _, rfl, hD2, ?_, hlt, ?_, same_mut s2 hD⟩
      · have := uniq_len (z.cps.toList.take j)
        rw [List.length_take] at this
        have big : 2000 < scanBound := by decide
        omega
      · rw [upd_same, uniq_take hc']
  · have e : j = z.cps.size := by omega
    subst e
    refine .inl ⟨Nat.le_refl _, _, _, rfl, hD2, ?_⟩
    rw [List.take_of_length_le (by rw [Array.length_toList]; exact Nat.le_refl _)]
    exact q H2 s2
end Px

namespace Px
open PySem PySem.Spec PyProof.Rows L2
open PySem.Builtin PySem.Builtin.Str in
/-- x filled up on the right by c -/
def fillR (x : Str) (i : Int) (c : Nat) : Str := if i ≤ x.length then x else padded x 0 (i.toNat - x.length) c
section
open PySem.Builtin PySem.Builtin.Str
theorem gives_ljust3 (x : Str) (i : Int) (t u v : Tok) (c : Nat) (hr : (decide (i < -(2 ^ 63 : Int)) || decide (i ≥ 2 ^ 63)) = false) (hl : tooLong i.toNat = false) :
    Gives («str.ljust» ⟨[.str x t, .int i u, .str ⟨#[c]⟩ v], []⟩) (if i ≤ x.length then .val (.str x t) else .str (padded x 0 (i.toNat - x.length) c)) := by
  show Gives (do
    let w ← asSsize "str.ljust" (.int i u)
    if w ≤ x.length then (do rule "str.ljust.long-enough"; ret (.str x t)) else if tooLong w.toNat = true then unsupported "str.ljust:memory" else retStr (padded x 0 (w.toNat - x.length) c)) _
  rw [asSsize_int _ _ _ hr]
  show Gives (if i ≤ x.length then (do rule "str.ljust.long-enough"; ret (.str x t)) else if tooLong i.toNat = true then unsupported "str.ljust:memory" else retStr (padded x 0 (i.toNat - x.length) c)) _
  rw [hl]
  by_cases h : i ≤ (x.length : Int)
  · rw [if_pos h, if_pos h]
    exact .rule (.of_eq rfl)
  · rw [if_neg h, if_neg h]
    exact .of_eq rfl
end
def rLjust : V → List V → Hp → VK → Prop := fun x xs H Q => ∃ (a : Str) (i : Int) (c : Nat), x = .str a ∧ xs = [.int i, .str ⟨#[c]⟩] ∧ PadOk i = true ∧ Q (.str (fillR a i c)) H
theorem mt_ljustC {X : Cx} : MtR X "str.ljust" rLjust := by
  intro pins s σ H x xs v us Q I rx rs h
  obtain ⟨a, i, c, rfl, rfl, hp, h⟩ := h
  obtain ⟨t, rfl⟩ := rx
  obtain ⟨u1, u2, rfl, r1, r2⟩ := vals2 rs
  obtain ⟨t1, rfl⟩ := r1
  obtain ⟨t2, rfl⟩ := r2
  exact call_gives F.slot_str_ljust (typeIs_str _ _ _) F.entry_str_ljust (F.args_str_ljust_3 _ _ _) (gives_ljust3 a i t t1 t2 c (PadOk.parts hp).1 (PadOk.parts hp).2)
    (post_val_or_made (fits_padR c (PadOk.parts hp).2) fun t' k => ⟨.str (fillR a i c), H, I.tok k, ⟨t', rfl⟩, h⟩)
abbrev rLower : V → List V → Hp → VK → Prop := fun x xs H Q => ∃ a, x = .str a ∧ xs = [] ∧ a.length ≤ 5592405 ∧ Q (.str (Txt.lower a)) H
abbrev rSplit : V → List V → Hp → VK → Prop := fun x xs H Q => ∃ a b, x = .str a ∧ xs = [.str b] ∧ (b.length == 0) = false ∧ a.length + 2 ≤ sizeLine ∧ rNewStrs (Txt.split a b) H Q
end Px

namespace Px
open PySem PySem.Spec PyProof.Rows L2
/-! ### steps for the readings of classes, kinds, formats -/
/-- int(x) of an int or a bool -/
abbrev rInt1 : List V → Hp → VK → Prop := fun xs H Q => (∃ i, xs = [.int i] ∧ Q (.int i) H) ∨ ∃ k : Bool, xs = [.bl k] ∧ Q (.int (if k then 1 else 0)) H
section
variable {K : PySem.W.Frag} {σ : S} {H : Hp} {Q : VK} {D : Ends} {ta tb te : TE} {tr tk : TA} {E : XK} {i j : Int} {f : Str} {C : Addr} {sp : Sp}
theorem r_fld (h : ta σ H fun x H1 => ∃ a C dx fs v, x = .ref a ∧ H1 a = some (.ins C dx fs) ∧ Cls K C ∧ NoAttr K C f ∧ fs.lookup f = some v ∧ Q v H1) : tFld K ta f σ H Q := h
theorem r_sfld {tv : TE} (h : tv σ H fun y H1 => ta σ H1 fun x H2 => ∃ a C dx fs, x = .ref a ∧ H2 a = some (.ins C dx fs) ∧ Cls K C ∧ NoAttr K C f ∧ fs.length < 1000 ∧ D.nx σ (upd H2 a (.ins C dx (putF f y fs)))) : sFld K ta tv f D σ H := h
theorem r_cval (h : ta σ H fun x H1 => ∃ C mc v u, x = .ref C ∧ ClX.CRead K C mc ∧ ClX.CVal K C mc f v u ∧ Q v H1) : ClX.tCVal K ta f σ H Q := h
theorem r_meth {m : Str} {dvs : List V} (h : ta σ H fun x H1 => ∃ a dx fs, x = .ref a ∧ H1 a = some (.ins C dx fs) ∧ fs.lookup m = none ∧ tr σ H1 fun vs H2 => sp (x :: (vs ++ dvs)) H2 Q E) : tMeth C m sp dvs E ta tr σ H Q := h
theorem r_makeK {n m : Nat} {gV : List V → List V → List V} (h : tr σ H fun vs H1 => tk σ H1 fun zs H2 => vs.length = n ∧ zs.length = m ∧ ∀ x dx, H2 x = none → H2 dx = none → dx ≠ x →
    sp (gV (.ref x :: vs) zs) (upd (upd H2 dx (.own x)) x (.ins C dx [])) (fun v H3 => v = .non ∧ Q (.ref x) H3) E) : tMakeK C n m sp gV E tr tk σ H Q := h
theorem r_fmtB {g : Nat → Str} (h : te σ H fun x H1 => ∃ n : Nat, x = .int n ∧ n < 256 ∧ Q (.str (g n)) H1) : tFmtB g te σ H Q := h
theorem r_dist {k : Nat} (h0 : k < σ.length) (h : te σ H fun v H1 => ∃ z : Str, v = .str z ∧ z.length ≤ 1000 ∧ ∀ H2, Same H1 H2 → Q (.int ((uniq z.cps.toList).length : Nat)) H2) : tDist k te σ H Q := ⟨h0, h⟩
theorem r_m0 {r : V → List V → Hp → VK → Prop} (h : ta σ H fun x H1 => (∃ a, x = .str a) ∧ r x [] H1 Q) : tM0 r ta σ H Q := h
theorem r_dget (h : ta σ H fun x H1 => tb σ H1 fun y H2 => ∃ a v, x = .ref a ∧ DGet H2 a y (some v) ∧ Q v H2) : tDGet ta tb σ H Q := h
theorem r_isiB {x : V} {t c : String} {b : Bool} (h1 : TyOf K H x (.type t)) (h2 : kitB t c = some b) (h : Q (.bl b) H) : rIsi K [x, .ty c] H Q := r_isi (.ty c) (.base h1) (kit_ty h2) h
theorem r_isiI (h : Q (.bl true) H) : rIsi K [.int i, .ty "int"] H Q := r_isiB (.int i) (by decide +kernel) h
theorem r_isiIB (h : Q (.bl false) H) : rIsi K [.int i, .ty "bool"] H Q := r_isiB (.int i) (by decide +kernel) h
theorem r_isiS {z : Str} (h : Q (.bl true) H) : rIsi K [.str z, .ty "str"] H Q := r_isiB (.str z) (by decide +kernel) h
theorem r_isiBB {b : Bool} (h : Q (.bl true) H) : rIsi K [.bl b, .ty "bool"] H Q := r_isiB (.bl b) (by decide +kernel) h
theorem r_isiTL {p t : Addr} {xs : List V} (h1 : H p = some (.lst xs)) (h2 : H t = some (.tup [.ty "list", .ty "tuple"])) (h : Q (.bl true) H) : rIsiT K [.ref p, .ref t] H Q :=
  ⟨.ref p, t, _, .type "list", _, true, rfl, h2, .cons (.ty "list") (.cons (.ty "tuple") .nil), .base (.lst h1), kitAny_cons (b := true) (kit_ty (by decide +kernel)) (fun z => by cases z) (fun _ => rfl), h⟩
theorem r_isiTT {p t : Addr} {xs : List V} (h1 : H p = some (.tup xs)) (h2 : H t = some (.tup [.ty "list", .ty "tuple"])) (h : Q (.bl true) H) : rIsiT K [.ref p, .ref t] H Q :=
  ⟨.ref p, t, _, .type "tuple", _, true, rfl, h2, .cons (.ty "list") (.cons (.ty "tuple") .nil), .base (.tup h1), kitAny_cons (b := false) (kit_ty (by decide +kernel))
    (fun _ => kitAny_cons (b := true) (kit_ty (by decide +kernel)) (fun z => by cases z) (fun _ => rfl)) (fun z => by cases z), h⟩
theorem r_inID {kvs : List (Int × Int)} {a : Addr} {g : Bool → Bool} (h : Q (.bl (g (atK kvs i).isSome)) H) : rInID kvs a g (.int i) (.ref a) H Q := ⟨i, rfl, rfl, h⟩
theorem r_ixID {kvs : List (Int × Int)} {a : Addr} (h1 : atK kvs i = some j) (h : Q (.int j) H) : rIxID kvs a (.ref a) (.int i) H Q := ⟨i, j, rfl, rfl, h1, h⟩
theorem r_intBin {x : Str} (h1 : x.cps.toList ≠ []) (h2 : x.length ≤ 640) (h3 : ∀ c ∈ x.cps.toList, Bn.IsBit c) (h : Q (.int ((Bn.binNum x.cps.toList : Nat) : Int)) H) : rIntBin [.str x, .int 2] H Q := ⟨x, rfl, h1, h2, h3, h⟩
theorem r_all {a : Addr} {bs : List Bool} (h1 : SqL K H a (bs.map V.bl)) (h : Q (.bl (bs.all id)) H) : rAll K [.ref a] H Q := ⟨a, bs, rfl, h1, h⟩
theorem r_int1I (h : Q (.int i) H) : rInt1 [.int i] H Q := .inl ⟨i, rfl, h⟩
theorem r_int1B {k : Bool} (h : Q (.int (if k then 1 else 0)) H) : rInt1 [.bl k] H Q := .inr ⟨k, rfl, h⟩
theorem r_inS {a b : Str} (h : rInS (.str a) (.str b) H Q) : rInU K (.str a) (.str b) H Q := .inl h
theorem r_enumL {R : It → Hp → Prop} (h : tr σ H fun vs H1 => ∃ a xs, vs = [.ref a] ∧ SqL K H1 a xs ∧ R (Ite K a) H1) : iEnumU K tr σ H R := .inl h
theorem r_enumS {R : It → Hp → Prop} (h : tr σ H fun vs H1 => ∃ z : Str, vs = [.str z] ∧ R (ItP z.cps.size (fun i => some (.int (i : Nat))) (sgn z)) H1) : iEnumU K tr σ H R := .inr h
theorem r_seqC {t u : TS} (Mid : S → Hp → Prop) (h2 : ∀ σ G, Mid σ G → u D σ G) (h1 : ∀ N : S → Hp → Prop, (∀ σ G, Mid σ G → N σ G) → t { D with nx := N } σ H) : tSeq t u D σ H := h1 (u D) h2
theorem r_gtI (h : Q (.bl (decide (j < i))) H) : rGtI (.int i) (.int j) H Q := r_I0 h
end
end Px

namespace Px
open PySem PySem.Spec PyProof.Rows L2
/-! ### lists of texts compared -/
def StrsLo (l : List Str) : Prop := ∀ z ∈ l, ∀ c ∈ z.cps.toList, c < 0x110000
def dS (l : List Str) : PyData := .list (l.map PyData.str)
theorem dpAll_strs {K : PySem.W.Frag} {H : Hp} : ∀ xs : List Str, DpAll K H (xs.map V.str) (xs.map PyData.str)
  | [] => .nil
  | x :: xs => .cons (.str _) (dpAll_strs xs)
theorem dp_strs {K : PySem.W.Frag} {H : Hp} {a : Addr} {l : List Str} (h : SqL K H a (l.map V.str)) : Dp K H (.ref a) (dS l) := .lst h (dpAll_strs l)
theorem canLay_strs : ∀ {xs : List Str}, StrsLo xs → PyData.canLayAll0 (xs.map PyData.str) = true
  | [], _ => by simp only [List.map_nil, PyData.canLayAll0]
  | x :: xs, h => by
    simp only [List.map_cons, PyData.canLayAll0, PyData.canLay0, canLay_strs fun z hz => h z (List.mem_cons_of_mem _ hz), Bool.and_true]
    exact strOk_of (h x (List.mem_cons_self ..))
theorem depth_strs : ∀ xs : List Str, PyData.depthAll (xs.map PyData.str) = 0
  | [] => by simp only [List.map_nil, PyData.depthAll]
  | x :: xs => by simp only [List.map_cons, PyData.depthAll, PyData.depth, depth_strs xs, Nat.max_self]
theorem dS_shaped {xs : List Str} (h : StrsLo xs) : SeqAt.shaped (dS xs) = true := by
  unfold SeqAt.shaped dS
  simp only [PyData.canLay0, PyData.depth, canLay_strs h, depth_strs]
  decide
theorem eqv_strs : ∀ xs ys : List Str, PyData.eqvAll (xs.map PyData.str) (ys.map PyData.str) = decide (xs = ys)
  | [], [] => by simp only [List.map_nil, PyData.eqvAll]; rfl
  | [], y :: ys => by simp only [List.map_nil, List.map_cons, PyData.eqvAll]; simp
  | x :: xs, [] => by simp only [List.map_nil, List.map_cons, PyData.eqvAll]; simp
  | x :: xs, y :: ys => by
    simp only [List.map_cons, PyData.eqvAll, PyData.eqv, eqv_strs xs ys]
    by_cases h : x = y <;> simp [h]
theorem dS_eqv (xs ys : List Str) : PyData.eqv (dS xs) (dS ys) = decide (xs = ys) := by
  unfold dS
  simp only [PyData.eqv, eqv_strs]
section
variable {K : PySem.W.Frag} {H : Hp} {Q : VK} {a b : Addr} {xs ys : List Str}
theorem r_eqUT (h1 : SqL K H a (xs.map V.str)) (h2 : SqL K H b (ys.map V.str)) (l1 : StrsLo xs) (l2 : StrsLo ys) (h : Q (.bl (decide (xs = ys))) H) : rEqU K (.ref a) (.ref b) H Q :=
  r_eqUD (dp_strs h1) (dp_strs h2) (dS_shaped l1) (dS_shaped l2) (by rw [dS_eqv]; exact h)
theorem r_neUT (h1 : SqL K H a (xs.map V.str)) (h2 : SqL K H b (ys.map V.str)) (l1 : StrsLo xs) (l2 : StrsLo ys) (h : Q (.bl (!decide (xs = ys))) H) : rNeU K (.ref a) (.ref b) H Q :=
  r_neUD (dp_strs h1) (dp_strs h2) (dS_shaped l1) (dS_shaped l2) (by rw [dS_eqv]; exact h)
end
end Px

namespace Px
open PySem PySem.Spec PyProof.Rows L2
/-! ### len(o), x in o by the class's own defs -/
section
variable {prog : Program} {w : World} {A : Around} {E : Value → Shared → Prop} {s : Shared} {K : PySem.W.Frag} {x C f : Addr} {ox : Obj} {od : Option Obj}
theorem contains_own {b : Value} {Q : Bool → Shared → Prop} (X : K.In s.heap) (I : PySem.W.InstAt s.heap x ox C od) (hs : PySem.W.findIn K (.ref C) "__contains__" = some (some (.ref f))) (hf : PySem.W.isFn K (.ref f) = true)
    (h : wpAny (model prog w) A (call (.ref f) [.ref x, b]) (fun v s' => ∃ r, v = .bool r ∧ Q r s') E s) : wpAny (model prog w) A (contains (.ref x) b) Q E s := by
  unfold contains
  refine wpAny_holding ?_
  dsimp only [stdlibNamesSay?]
  refine wpAny_bind (wpAny_bind (I.type.here ((PySem.W.looks_findIn X hs).here ?_)))
  show wpAny _ _ (if (some (Value.ref f) == some Value.none) = true then _ else _) _ _ _
  rw [if_neg (by intro z; cases z)]
  unfold callSpecialUnlessNone?
  refine wpAny_bind (wpAny_bind (wpAny_bind (I.type.here ((PySem.W.looks_findIn X hs).here ?_))))
  refine wpAny_holding (wpAny_bind ((PySem.W.bind_fn X _ (beq_iff_eq.mp hf)).here ?_))
  show wpAny _ _ (if (Value.ref f == Value.none) = true then _ else _) _ _ _
  rw [if_neg (by intro z; cases z)]
  refine wpAny_bind (wpAny_mono h (fun v s' hv => ?_) fun _ _ e => e)
  obtain ⟨r, rfl, q⟩ := hv
  exact wpAny_pure (wpAny_truthy_bool q)
end
/-- len(o) -/
def rLenOwn (C : Addr) (sp : Sp) (E : XK) : List V → Hp → VK → Prop := fun xs H Q => ∃ a dx fs, xs = [.ref a] ∧ H a = some (.ins C dx fs) ∧ sp [.ref a] H (fun v H' => ∃ n : Nat, v = .int n ∧ n < 1000000 ∧ Q (.int n) H') E
/-- x in o -/
def rInOwn (C : Addr) (sp : Sp) (E : XK) (g : Bool → Bool) : R2 := fun x y H Q => ∃ a dx fs, y = .ref a ∧ H a = some (.ins C dx fs) ∧ sp [.ref a, x] H (fun v H' => ∃ r, v = .bl r ∧ Q (.bl (g r)) H') E
section
variable {X : Cx} {CX : CXT} {k : Nat} {C f : Addr} {fd : FuncData} {ps : List Str} {sp : Sp} {E : XK}
theorem call_lenOwn (F : FnOk X.prog X.w X.K X.mg X.base CX k f fd ps sp) (hr : Room (k + 1) X.A) (D : Meth X.K C "__len__" f) (hb : Binds X.K fd ps []) (hx : Passes CX X E) : CallR X (.builtin "len") (rLenOwn C sp E) := by
  intro pins s σ H xs us Q I r h
  obtain ⟨a, dx, fs, rfl, ha, q⟩ := h
  obtain ⟨u, rfl, ru⟩ := vals1 r
  obtain rfl : u = Value.ref a := ru
  obtain ⟨mA, J, _⟩ := ins_get I.hok ha
  obtain ⟨od, J, _⟩ := J.look
  obtain ⟨m, hF⟩ := I.fr
  refine PySem.W.len_K hF I.ok.mod.kin J D.at_ D.fn ?_
  have hl := F.len _ _ _ _ q
  have r2 : Vals [V.ref a] [Value.ref a] := .cons rfl .nil
  refine wpAny_call (codeAny_mono (F.run X.A.in1 X.stack s H ⟨[.ref a], []⟩ [.ref a] [.ref a] _ E hr.in1 I.env0.in1 (by
    have := hb s [.ref a] I.kIn (by simpa using hl)
    simpa using this) r2 q) fun r s' hq => ?_)
  cases r with
  | error e => exact hx pins σ H s e s' I hq
  | ok fl =>
    cases fl with
    | ret w =>
      obtain ⟨z, H', I', rz, n, ez, hn, q'⟩ := I.after hq
      subst ez
      obtain ⟨t, rfl⟩ := rz
      exact ⟨⟨by omega, by omega⟩, .int n, H', I'.tok _, ⟨_, rfl⟩, q'⟩
    | next => exact False.elim hq
    | brk => exact False.elim hq
    | cont => exact False.elim hq
theorem contains_ok {pins : List (Addr × Obj)} {s : Shared} {σ : S} {H : Hp} {x : V} {v : Value} {a dx : Addr} {fs : List (Str × V)} {Q : Bool → Hp → Prop} (F : FnOk X.prog X.w X.K X.mg X.base CX k f fd ps sp) (hr : Room k X.A) (D : Meth X.K C "__contains__" f) (hb : Binds X.K fd ps []) (hx : Passes CX X E)
    (I : Inv X pins σ H s) (rx : RelV x v) (ha : H a = some (.ins C dx fs)) (q : sp [.ref a, x] H (fun v H' => ∃ r, v = .bl r ∧ Q r H') E) :
    wpAny (model X.prog X.w) X.A (contains (.ref a) v) (fun r s' => ∃ H', Inv X pins σ H' s' ∧ Q r H') X.xe s := by
  obtain ⟨mA, J, _⟩ := ins_get I.hok ha
  obtain ⟨od, J, _⟩ := J.look
  refine contains_own I.kIn J D.at_ D.fn ?_
  have hl := F.len _ _ _ _ q
  have r2 : Vals [V.ref a, x] [Value.ref a, v] := .cons rfl (.cons rx .nil)
  refine wpAny_call (codeAny_mono (F.run X.A X.stack s H ⟨[.ref a, v], []⟩ [.ref a, v] [.ref a, x] _ E hr I.env0 (by
    have := hb s [.ref a, v] I.kIn (by simpa using hl)
    simpa using this) r2 q) fun r s' hq => ?_)
  cases r with
  | error e => exact hx pins σ H s e s' I hq
  | ok fl =>
    cases fl with
    | ret w =>
      obtain ⟨z, H', I', rz, b, ez, q'⟩ := I.after hq
      subst ez
      cases rz
      exact ⟨b, rfl, H', I', q'⟩
    | next => exact False.elim hq
    | brk => exact False.elim hq
    | cont => exact False.elim hq
theorem op_inOwn (F : FnOk X.prog X.w X.K X.mg X.base CX k f fd ps sp) (hr : Room k X.A) (D : Meth X.K C "__contains__" f) (hb : Binds X.K fd ps []) (hx : Passes CX X E) : OpR X (compareOp .In) (rInOwn C sp E fun b => b) := by
  intro pins s σ H x y v u Q I rx ry h
  obtain ⟨a, dx, fs, rfl, ha, q⟩ := h
  cases (show u = Value.ref a from ry)
  show wpAny _ _ (contains (.ref a) v >>= fun b => pure (Value.bool b)) _ _ _
  refine wpAny_bind (wpAny_mono (contains_ok F hr D hb hx I rx ha (Q := fun r H' => Q (.bl r) H') q) (fun r s' z => ?_) fun _ _ e => e)
  obtain ⟨H', I', q'⟩ := z
  exact wpAny_pure ⟨.bl r, H', I', rfl, q'⟩
end
section
variable {H : Hp} {Q : VK} {x : V} {C a dx : Addr} {fs : List (Str × V)} {sp : Sp} {E : XK} {g : Bool → Bool}
theorem r_lenOwn (ha : H a = some (.ins C dx fs)) (h : sp [.ref a] H (fun v H' => ∃ n : Nat, v = .int n ∧ n < 1000000 ∧ Q (.int n) H') E) : rLenOwn C sp E [.ref a] H Q := ⟨a, dx, fs, rfl, ha, h⟩
theorem r_inOwn (ha : H a = some (.ins C dx fs)) (h : sp [.ref a, x] H (fun v H' => ∃ r, v = .bl r ∧ Q (.bl (g r)) H') E) : rInOwn C sp E g x (.ref a) H Q := ⟨a, dx, fs, rfl, ha, h⟩
end
end Px

/-! a def's body begins with a token given out (its first parameter's name); str.replace of written texts in such a body -/
namespace Px
open PySem PySem.Spec PyProof.Rows L2
section
variable {M : Model} {A : Around} {E : Value → Shared → Prop} {s s₀ : Shared} {env : Env} {m cm : Str → Option Value}
theorem stLC_t {n : Str} {v : Value} {Q : Unit → Shared → Prop} (x : InCallC s₀ env.locals m env.cells cm s) (hk : env.scope.kind = .function) (hl : env.kindOf n = some .local)
    (h : ∀ s', InCallC s₀ env.locals (fun y => if y = n then some v else m y) env.cells cm s' → 1 ≤ s'.toks → Q () s') : wpAny M A (storeName env n v) Q E s := by
  refine wpAny_storeName_local hl x.toInCall.ns (fun h' hn' hs' => h _ ⟨⟨?_, hn', fun b o e => ?_, x.toInCall.fresh⟩, fun k c hc => ?_, x.apart, x.above⟩ (Nat.succ_le_succ (Nat.zero_le _))) (by rw [hk]; rfl)
  · obtain ⟨h₁, tk, rfl⟩ := x.toInCall.same
    exact ⟨h', _, rfl⟩
  · exact hs'.extBut b o (Nat.ne_of_lt (Nat.lt_of_lt_of_le (Heap.lt_size e) x.toInCall.fresh)) (x.toInCall.keep b o e)
  · exact (x.cell k c hc).sameBut hs' (Nat.ne_of_gt (x.above k c (mem_of_lookup hc)))
theorem bindParams_t (f : Str × Value → PUnit → Sem (ForInStep PUnit)) (hf : ∀ n v u, f (n, v) u = (do storeName env n v; pure (.yield ⟨⟩))) (hk : env.scope.kind = .function)
    (n : Str) (v : Value) (r : List (Str × Value)) {Q : PUnit → Shared → Prop} (x : InCallC s₀ env.locals m env.cells cm s) (hl : env.kindOf n = some .local)
    (hkind : ∀ x ∈ r, env.kindOf x.1 = some .local ∨ (env.kindOf x.1 = some .cell ∧ (env.cells.lookup x.1).isSome = true))
    (h : ∀ s', InCallC s₀ env.locals (bindL env.kindOf ((n, v) :: r) m) env.cells (bindC env.kindOf ((n, v) :: r) cm) s' → 1 ≤ s'.toks → Q ⟨⟩ s') : wpAny M A (forIn ((n, v) :: r) ⟨⟩ f) Q E s := by
  rw [List.forIn_cons, hf]
  refine wpAny_bind (wpAny_bind (stLC_t x hk hl fun s' x' h1 => wpAny_pure ?_))
  refine wpAny_mono (wpAny_toks_of h1 (wpAny_bindParams f hf hk r _ _ s' (fun _ s'' => InCallC s₀ env.locals (bindL env.kindOf ((n, v) :: r) m) env.cells (bindC env.kindOf ((n, v) :: r) cm) s'') x' hkind fun s'' x'' => ?_)) (fun _ s'' z => h s'' z.2 z.1) fun _ _ z => z.2
  unfold bindL bindC; rw [if_pos hl, if_pos hl]; exact x''
theorem newEnv_t {scope : Scope} {globals : Addr} {n : Str} {v : Value} {r : List (Str × Value)} {qual : Str} {func : Option Addr} {code : Value} {builtins : Addr} {Q : Env → Shared → Prop}
    (hk : scope.kind = .function) (hl : scope.names.lookup n = some .local)
    (hkind : ∀ x ∈ r, scope.names.lookup x.1 = some .local ∨ (scope.names.lookup x.1 = some .cell ∧ ((cellsFrom (s.heap.objs.size + 1) scope.names []).lookup x.1).isSome = true))
    (hQ : ∀ env, env = newEnv scope s.heap.objs.size globals (cellsFrom (s.heap.objs.size + 1) scope.names []) qual func code none builtins →
      ∀ s', InCallC s env.locals (bindL env.kindOf ((n, v) :: r) fun _ => none) env.cells (bindC env.kindOf ((n, v) :: r) fun _ => none) s' → 1 ≤ s'.toks → Q env s') :
    wpAny M A (newFunctionEnv scope globals [] ((n, v) :: r) qual func code none builtins) Q E s := by
  simp only [newFunctionEnv, Option.isSome_none, Bool.false_eq_true, if_false]
  refine wpAny_bind (wpAny_alloc ?_)
  refine wpAny_bind (wpAny_layCells _ (fun name kind cells => by cases hkc : kind == NameKind.cell <;> simp [hkc]) _ _ _ _ ?_)
  have ok := cellsFrom_ok scope.names (s.heap.push { cls := .type "frame", data := .dict #[] }) (s.heap.objs.size + 1) [] ⟨fun _ _ hm => (nomatch hm), List.Pairwise.nil⟩ (by rw [Heap.size_push]; exact Nat.le_refl _)
  rw [Heap.size_push] at ok
  rw [show ({ s with heap := s.heap.push { cls := .type "frame", data := .dict #[] } } : Shared).heap.objs.size = s.heap.objs.size + 1 from Heap.size_push ..]
  refine wpAny_bind (bindParams_t (s₀ := s) (env := newEnv scope s.heap.objs.size globals (cellsFrom (s.heap.objs.size + 1) scope.names []) qual func code none builtins)
    _ (fun _ _ _ => rfl) hk n v r
    ⟨⟨⟨_, _, rfl⟩, (Heap.Ns.new s.heap (.type "frame")).keeps (pushCells_keeps _ _), fun b o e => pushCells_keeps _ _ b o (Heap.get?_push_of_some _ e), Nat.le_refl _⟩,
      fun n c hc => (ok.empty n c (mem_of_lookup hc)).1, ok.apart, fun n c hm => (ok.empty n c hm).2⟩
    hl hkind fun s' x h1 => wpAny_pure (hQ _ rfl s' x h1))
end
theorem fn_ofG {CX : CXT} {P : Program} {w : World} {K : PySem.W.Frag} {mg : Str → Option Value} {base : Heap} {k : Nat} {f : Addr} {name qual : Str} {params : Arguments} {body : List Stmt} {scope : Scope} {dV kV doc pm cdv ct oc : Value} {an od : Option Addr}
    {osl : Array (Option Value)} {N ps : List Str} {p0 : Str} {sp : Sp} (lk : K.lookup f = some ⟨oc, od, .func (PySem.W.fnOf name qual params body scope dV kV doc pm an cdv ct), osl⟩) (hcd : PySem.W.codeIn K cdv qual = true) (Sc : FnScope N (p0 :: ps) scope)
    (h0 : scope.names.lookup p0 = some .local) (len : ∀ vs H Q E, sp vs H Q E → vs.length = (p0 :: ps).length)
    (hbody : ∀ (A : Around) (outer : List Env) (s : Shared) (H : Hp) (vs : List V) (Q : VK) (E : XK), Room k (A.deeper (envOfC qual scope s.heap.objs.size f cdv)) → sp vs H Q E →
      ∃ t, PSsT (cxOf CX P w K mg base N qual scope f cdv A outer s H E) body t ∧ t { nx := fun _ H' => Q .non H', rt := Q } (start N vs) H) :
    FnOk P w K mg base CX (k + 1) f (PySem.W.fnOf name qual params body scope dV kV doc pm an cdv ct) (p0 :: ps) sp := by
  refine ⟨len, fun A outer s H args us vs Q E hr e0 hb r hsp => ?_⟩
  have hl := len _ _ _ _ hsp
  have hul : us.length = (p0 :: ps).length := by rw [← r.length, hl]
  obtain ⟨u0, us', rfl⟩ := List.exists_cons_of_length_eq_add_one (n := ps.length) (by simpa using hul)
  have KX : K.In s.heap := e0.mod.kin.keeps fun b o e => (e0.bs b o e).1
  have lim : s.heap.NoLimit := e0.mod.nolimit.keeps fun b o e => (e0.bs b o e).1
  have hkind : ∀ y ∈ ps.zip us', scope.names.lookup y.1 = some .local ∨ (scope.names.lookup y.1 = some .cell ∧ ((cellsFrom (s.heap.objs.size + 1) scope.names []).lookup y.1).isSome = true) := fun ⟨n, v⟩ hy => by
    rcases Sc.par n (List.mem_cons_of_mem _ (List.of_mem_zip hy).1) with q | q
    · exact .inl q
    · exact .inr ⟨q, PySem.W.cellsFrom_some _ _ _ (.inl q)⟩
  refine codeAny_call_function hr.depth (KX _ _ lk) rfl Sc.co Sc.gen rfl (PySem.W.codeRec_of KX hcd) (hb _ _ _ _ ?_)
  rw [List.zip_cons_cons]
  refine newEnv_t Sc.kind h0 hkind fun env he s1 x hto => ?_
  subst he
  refine ⟨lim.keeps x.toInCall.keep, codeAny_func ?_⟩
  obtain ⟨t, ht, hq⟩ := hbody A outer s H vs Q E (hr.deeper _) hsp
  have I : Inv (cxOf CX P w K mg base N qual scope f cdv A outer s H E) [] (start N vs) H s1 := inv_start Sc hr.hd e0 hl r x
  refine wpAny_mono (ht [] s1 (start N vs) H _ hto I hq) (fun fl s' hs => ?_) fun e s' hs => hs
  have fin : ∀ {σ' : S} {H' : Hp} {v : V} {u : Value}, Inv (cxOf CX P w K mg base N qual scope f cdv A outer s H E) [] σ' H' s' → RelV v u → Q v H' → CE outer P w H s Q u s' :=
    fun {σ' H' v u} J rv q => ⟨v, H', J.os, J.bare, J.base, J.hok, rv, q⟩
  cases fl with
  | ret u =>
    obtain ⟨v, σ', H', J, rv, q⟩ := hs
    exact fin J rv q
  | next =>
    obtain ⟨σ', H', J, q⟩ := hs
    exact fin (v := V.non) (u := Value.none) J rfl q
  | brk =>
    obtain ⟨_, _, _, q⟩ := hs
    exact False.elim q
  | cont =>
    obtain ⟨_, _, _, q⟩ := hs
    exact False.elim q
theorem okT {CX : CXT} {P : Program} {w : World} {K : PySem.W.Frag} {mg : Str → Option Value} {base : Heap} {k : Nat} {x qual : Str} {params : Arguments} {body : List Stmt} {scope : Scope} {dvs : List V} {kws : List (Str × V)} {f : Addr} {fd : FuncData} {N ps : List Str} {p0 : Str} {sp : Sp}
    (F : FunD K x qual params body scope dvs kws f fd) (Sc : FnScope N (p0 :: ps) scope) (h0 : scope.names.lookup p0 = some .local) (len : ∀ vs H Q E, sp vs H Q E → vs.length = (p0 :: ps).length)
    (hbody : ∀ (cdv : Value) (A : Around) (outer : List Env) (s : Shared) (H : Hp) (vs : List V) (Q : VK) (E : XK), Room k (A.deeper (envOfC qual scope s.heap.objs.size f cdv)) → sp vs H Q E →
      ∃ t, PSsT (cxOf CX P w K mg base N qual scope f cdv A outer s H E) body t ∧ t { nx := fun _ H' => Q .non H', rt := Q } (start N vs) H) : FnOk P w K mg base CX (k + 1) f fd (p0 :: ps) sp := by
  obtain ⟨oc, od, dV, kV, doc, pm, an, cdv, ct, osl, rfl, lk, hcd, _, _⟩ := F.ex
  exact fn_ofG lk hcd Sc h0 len fun A outer s H vs Q E hr hsp => hbody cdv A outer s H vs Q E hr hsp
theorem psst_nox {X : Cx} {st : List Stmt} {t : TS} (h : PSsT X.nox st t) : PSsT X st t := fun pins s σ H D h0 I hw =>
  wpAny_mono (h pins s σ H D h0 (I.wish _) hw) (fun _ _ q => q.unwish) fun _ _ z => False.elim z
/-- x = e, e wants a token -/
theorem pst_set {X : Cx} {i : Nat} {x : Str} {e : Expr} {te : TE} {pos' pos : Pos} (hN : X.N.Nodup) (hi : X.N[i]? = some x) (hx : Loc X.env.scope x) (he : PET X e te) (hs : swapsWith e (some (.Name x pos')) pos.line X.env = pure false := by rfl) (hf : X.fn x = true ∨ X.env.scope.names.lookup x = some .local := by first | exact .inl rfl | exact .inr rfl) :
    PST X (.Assign [.Name x pos'] e pos) (tAsg te (gName i)) := by
  intro pins s σ H D h0 I h
  refine wpAny_Assign_Name (thn (he pins s σ H _ h0 I h) fun v s1 ⟨y, H1, I1, r1, q1⟩ => ?_) hs
  exact store_ok I1 hN hi hx r1 (fun s2 I2 => ⟨_, H1, I2, q1⟩) hf
/-- the tokens' own way: e.replace(y, z) as what PET asks -/
theorem r_repl {to : TE} {y z : Str} {σ : S} {H : Hp} {Q : VK} (h : to σ H fun v H1 => ∃ x, v = .str x ∧ x.length + (x.length + 1) * z.length ≤ 16777216 ∧ Q (.str (Txt.replace x y z)) H1) : CwR.tReplC to y z σ H Q := h
end Px

namespace Px
open PySem PySem.Spec PyProof.Rows L2
/-! ### text * number (a sign or none, a small number), text.index -/
def strRep (a : Str) (n : Nat) : Str := ⟨(List.replicate n a.cps.toList).flatten.toArray⟩
theorem rep_fold (x : Array Nat) : ∀ (n : Nat) (acc : Array Nat), (List.replicate n x).foldl (· ++ ·) acc = acc ++ (List.replicate n x.toList).flatten.toArray
  | 0, acc => by simp
  | n + 1, acc => by
    rw [List.replicate_succ, List.foldl_cons, rep_fold x n, List.replicate_succ, List.flatten_cons]
    apply Array.ext'
    simp
def rMulS : R2 := fun x y H Q => ∃ (a : Str) (n : Nat), x = .str a ∧ y = .int n ∧ a.length ≤ 1 ∧ n ≤ 1000 ∧ Q (.str (strRep a n)) H
theorem op_mulS {X : Cx} : OpR X (binaryOp .Mult) rMulS := by
  intro pins s σ H x y v u Q I rx ry h
  obtain ⟨a, n, rfl, rfl, ha, hn, q⟩ := h
  obtain ⟨t, rfl⟩ := rx
  obtain ⟨t2, rfl⟩ := ry
  have dv : 1000 ≤ (2 ^ 63 - 1 : Int) / (1000 : Int) := by decide
  refine PySem.P.mul_str (by
    rw [decide_eq_false (by omega), decide_eq_false (by omega)]; rfl) (fun h1 _ z => ?_) (fun h1 _ => ?_) ?_
  · have h3 : (1 : Int) ≤ (2 ^ 63 - 1) / (n : Int) := (Int.le_ediv_iff_mul_le (by omega)).mpr (by omega)
    omega
  · unfold Builtin.Str.tooLong
    rw [Int.toNat_natCast]
    refine decide_eq_false ?_
    have : a.length * n ≤ 1 * 1000 := Nat.mul_le_mul ha hn
    have := sizeLine_eq
    omega
  by_cases h1 : (n : Int) < 1
  · rw [if_pos h1]
    have e : n = 0 := by omega
    subst e
    exact ⟨by decide, ⟨.str (strRep a 0), H, I.tok _, ⟨_, rfl⟩, q⟩⟩
  · rw [if_neg h1]
    by_cases h2 : ((n : Int) == 1 || a.length == 0) = true
    · rw [if_pos h2]
      have e : strRep a n = a := by
        unfold strRep
        rcases Bool.or_eq_true_iff.mp h2 with z | z
        · have z := beq_iff_eq.mp z
          have : n = 1 := by omega
          subst this
          simp
        · have z : a.cps.size = 0 := beq_iff_eq.mp z
          have : a.cps = #[] := Array.eq_empty_of_size_eq_zero z
          have e2 : a = ⟨#[]⟩ := by
            show a = _
            rw [← this]
          rw [e2]
          simp
      rw [e] at q
      exact ⟨.str a, H, I, ⟨_, rfl⟩, q⟩
    · rw [if_neg h2]
      have e : (⟨(List.replicate (Int.toNat n) a.cps).foldl (· ++ ·) #[]⟩ : Str) = strRep a n := by
        rw [rep_fold, Int.toNat_natCast]
        unfold strRep
        simp
      rw [e]
      refine ⟨?_, ⟨.str (strRep a n), H, I.tok _, ⟨_, rfl⟩, q⟩⟩
      unfold strRep
      show (List.replicate n a.cps.toList).flatten.toArray.size ≤ sizeLine
      have : a.cps.toList.length ≤ 1 := by rw [Array.length_toList]; exact ha
      simp only [List.size_toArray, List.length_flatten, List.map_replicate, List.sum_replicate_nat]
      have h5 : n * a.cps.toList.length ≤ 1000 * 1 := Nat.mul_le_mul hn this
      rw [sizeLine_eq]
      omega
abbrev rSIdx : V → List V → Hp → VK → Prop := fun x xs H Q => ∃ a b i rest, x = .str a ∧ xs = [.str b] ∧ Builtin.Str.occurrences a b 0 a.length 1 = i :: rest ∧ Q (.int (i : Nat)) H
end Px

namespace Px
open PySem PySem.Spec PyProof.Rows L2
/-! ### readings of raise, try; values of any kind -/
def tRaiseE (E : XK) (t : L2.St → Hp → XK → Prop) : TS := fun _ σ H => t σ H fun cls d H' => E cls d H'
def tTryAs (K : PySem.W.Frag) (c : Value) (i : Nat) (ts : Addr → Value → Option Addr → TS) (Wout : WX) (tb : WX → TS) : TS := fun D σ H => tb (wAs K c i ts Wout D) D σ H
def tTryOnly (K : PySem.W.Frag) (c : Value) (ts : Addr → Value → Option Addr → TS) (Wout : WX) (tb : WX → TS) : TS := fun D σ H => tb (wOnly K c ts Wout D) D σ H
def rTupOf (K : PySem.W.Frag) : List V → Hp → VK → Prop := fun xs H Q => ∃ p ys, xs = [.ref p] ∧ ((SqL K H p ys ∧ ∀ l, H l = none → Q (.ref l) (upd H l (.tup ys))) ∨ (SqT K H p ys ∧ Q (.ref p) H))
section
variable {K : PySem.W.Frag} {H : Hp} {σ : S} {D : Ends} {Q : VK} {E : XK}
theorem r_raise {t : L2.St → Hp → XK → Prop} (h : t σ H fun cls d H' => E cls d H') : tRaiseE E t D σ H := h
theorem r_mkE {C : Addr} {fld : Str} {ta : TA} {E : XK} (h : ta σ H fun vs H1 => ∃ v, vs = [v] ∧ ∀ d, H1 d = none → E (.ref C) (some d) (upd H1 d (.xd [(fld, v)]))) : tMkE C fld ta σ H E := h
theorem r_callS {sp : Sp} {W : L2.St → XK} {ta : TA} (h : ta σ H fun vs H1 => sp vs H1 Q (W σ)) : tCallS sp W ta σ H Q := h
theorem r_tryAs {c : Value} {i : Nat} {ts : Addr → Value → Option Addr → TS} {Wout : WX} {tb : WX → TS} (h : tb (wAs K c i ts Wout D) D σ H) : tTryAs K c i ts Wout tb D σ H := h
theorem r_tryOnly {c : Value} {ts : Addr → Value → Option Addr → TS} {Wout : WX} {tb : WX → TS} (h : tb (wOnly K c ts Wout D) D σ H) : tTryOnly K c ts Wout tb D σ H := h
theorem r_wAs {C : Addr} {d : Option Addr} {i : Nat} {ts : Addr → Value → Option Addr → TS} {Wout : WX} (te : PySem.W.exmOne K (.ref C) (.ref C) = some true)
    (h : ∀ a, H a = none → ts a (.ref C) d { nx := fun σ' H' => D.nx (σ'.set i none) H', rt := D.rt, bk := fun σ' H' => D.bk (σ'.set i none) H', ct := fun σ' H' => D.ct (σ'.set i none) H' } (σ.set i (some (.ref a))) H) :
    wAs K (.ref C) i ts Wout D (.ref C) d σ H := ⟨true, te, fun _ => h, fun z => nomatch z⟩
theorem r_wOnly {C : Addr} {d : Option Addr} {ts : Addr → Value → Option Addr → TS} {Wout : WX} (te : PySem.W.exmOne K (.ref C) (.ref C) = some true) (h : ∀ a, H a = none → ts a (.ref C) d D σ H) :
    wOnly K (.ref C) ts Wout D (.ref C) d σ H := ⟨true, te, fun _ => h, fun z => nomatch z⟩
theorem r_xf {a C : Addr} {dd : Addr} {f : Str} {i : Nat} {v : V} {fs : List (Str × V)} (h0 : σ[i]? = some (some (.ref a))) (h1 : H dd = some (.xd fs)) (h2 : fs.lookup f = some v) (h : Q v H) : tXf a (.ref C) (some dd) C f (tVar i) σ H Q := by
  refine ⟨_, h0, ?_⟩
  exact ⟨rfl, rfl, dd, fs, v, rfl, h1, h2, h⟩
theorem r_tupOfL {p : Addr} {ys : List V} (h1 : SqL K H p ys) (h : ∀ l, H l = none → Q (.ref l) (upd H l (.tup ys))) : rTupOf K [.ref p] H Q := ⟨p, ys, rfl, .inl ⟨h1, h⟩⟩
theorem r_tupOfT {p : Addr} {ys : List V} (h1 : SqT K H p ys) (h : Q (.ref p) H) : rTupOf K [.ref p] H Q := ⟨p, ys, rfl, .inr ⟨h1, h⟩⟩
end
/-- values whose kind is known -/
inductive Kd (H : Hp) : V → String → Prop
  | int (i : Int) : Kd H (.int i) "int"
  | bl (b : Bool) : Kd H (.bl b) "bool"
  | non : Kd H .non "NoneType"
  | str (z : Str) : Kd H (.str z) "str"
  | lst {p : Addr} {xs : List V} : H p = some (.lst xs) → Kd H (.ref p) "list"
  | tup {p : Addr} {xs : List V} : H p = some (.tup xs) → Kd H (.ref p) "tuple"
theorem Kd.same {H H' : Hp} (s : Same H H') {v : V} {t : String} (h : Kd H v t) : Kd H' v t := by
  cases h with
  | int i => exact .int i
  | bl b => exact .bl b
  | non => exact .non
  | str z => exact .str z
  | lst h => exact .lst (s _ _ h)
  | tup h => exact .tup (s _ _ h)
theorem Kd.ty {K : PySem.W.Frag} {H : Hp} {v : V} {t : String} (h : Kd H v t) : TyOf K H v (.type t) := by
  cases h with
  | int i => exact .int i
  | bl b => exact .bl b
  | non => exact .non
  | str z => exact .str z
  | lst h => exact .lst h
  | tup h => exact .tup h
section
variable {K : PySem.W.Frag} {H : Hp} {Q : VK} {v : V} {t : String}
theorem r_isiK {c : String} {b : Bool} (k : Kd H v t) (h2 : kitB t c = some b) (h : Q (.bl b) H) : rIsi K [v, .ty c] H Q := r_isiB k.ty h2 h
theorem Kd.kinds (k : Kd H v t) : t = "int" ∨ t = "bool" ∨ t = "NoneType" ∨ t = "str" ∨ t = "list" ∨ t = "tuple" := by
  cases k <;> simp
/-- isinstance(v, int) and so on, for any known kind -/
theorem r_isiInt (k : Kd H v t) (h : Q (.bl (decide (t = "int") || decide (t = "bool"))) H) : rIsi K [v, .ty "int"] H Q := by
  cases k with
  | int i => exact r_isiK (.int i) (by decide +kernel) h
  | bl b => exact r_isiK (.bl b) (by decide +kernel) h
  | non => exact r_isiK .non (by decide +kernel) h
  | str z => exact r_isiK (.str z) (by decide +kernel) h
  | lst q => exact r_isiK (.lst q) (by decide +kernel) h
  | tup q => exact r_isiK (.tup q) (by decide +kernel) h
theorem r_isiBool (k : Kd H v t) (h : Q (.bl (decide (t = "bool"))) H) : rIsi K [v, .ty "bool"] H Q := by
  cases k with
  | int i => exact r_isiK (.int i) (by decide +kernel) h
  | bl b => exact r_isiK (.bl b) (by decide +kernel) h
  | non => exact r_isiK .non (by decide +kernel) h
  | str z => exact r_isiK (.str z) (by decide +kernel) h
  | lst q => exact r_isiK (.lst q) (by decide +kernel) h
  | tup q => exact r_isiK (.tup q) (by decide +kernel) h
theorem r_isiStr (k : Kd H v t) (h : Q (.bl (decide (t = "str"))) H) : rIsi K [v, .ty "str"] H Q := by
  cases k with
  | int i => exact r_isiK (.int i) (by decide +kernel) h
  | bl b => exact r_isiK (.bl b) (by decide +kernel) h
  | non => exact r_isiK .non (by decide +kernel) h
  | str z => exact r_isiK (.str z) (by decide +kernel) h
  | lst q => exact r_isiK (.lst q) (by decide +kernel) h
  | tup q => exact r_isiK (.tup q) (by decide +kernel) h
/-- isinstance(v, (list, tuple)) -/
theorem r_isiSeq {tp : Addr} (k : Kd H v t) (h2 : H tp = some (.tup [.ty "list", .ty "tuple"])) (h : Q (.bl (decide (t = "list") || decide (t = "tuple"))) H) : rIsiT K [v, .ref tp] H Q := by
  have go : ∀ (b : Bool), PySem.W.kitAny K (.type t) [.type "list", .type "tuple"] = some b → Q (.bl b) H → rIsiT K [v, .ref tp] H Q := fun b e q =>
    ⟨v, tp, [.ty "list", .ty "tuple"], .type t, [.type "list", .type "tuple"], b, rfl, h2, .cons (.ty "list") (.cons (.ty "tuple") .nil), .base k.ty, e, q⟩
  have no : ∀ {t : String}, kitB t "list" = some false → kitB t "tuple" = some false → PySem.W.kitAny K (.type t) [.type "list", .type "tuple"] = some false := fun a b =>
    kitAny_cons (b := false) (kit_ty a) (fun _ => kitAny_cons (b := false) (kit_ty b) (fun _ => rfl) (fun z => nomatch z)) (fun z => nomatch z)
  cases k with
  | int i => exact go false (no (by decide +kernel) (by decide +kernel)) h
  | bl b => exact go false (no (by decide +kernel) (by decide +kernel)) h
  | non => exact go false (no (by decide +kernel) (by decide +kernel)) h
  | str z => exact go false (no (by decide +kernel) (by decide +kernel)) h
  | lst q => exact r_isiTL q h2 h
  | tup q => exact r_isiTT q h2 h
end
end Px

/-! for i, x in enumerate(tuple) -/
namespace PySem
open Sem (wp)
open AutoSeq1 (wpAny_loadPart')
theorem meets_enumerate_newT (l : Addr) (items : Array Value) (n : Nat) (dct : Option Addr) (sl : Array (Option Value)) :
    Meets (Builtin.«enumerate.__new__» ⟨[.type "enumerate", .ref l], []⟩) (fun _ R s => s.heap.get? l = some { cls := .type "tuple", dict := dct, data := .seq items n, slots := sl } ∧
      R (.ok (.ret (.ref (s.heap.push { cls := .type "tuple_iterator", data := .fields #[.ref l, .int 0 0] }).objs.size)))
        { s with heap := (s.heap.push { cls := .type "tuple_iterator", data := .fields #[.ref l, .int 0 0] }).push { cls := .type "enumerate", data := .fields #[.none, .bool false, .ref s.heap.objs.size, rawInt 0, .none, .none] } }) :=
  .of_wp fun prog w A R s h => by
    obtain ⟨hp, g, d, tk, os⟩ := s; obtain ⟨hl, h⟩ := h
    have hsub := sub_enumerate
    have hL : Heap.IsTuple (Shared.heap ⟨hp, g, d, tk, os⟩) l items := ⟨_, hl, rfl, n, rfl⟩
    wp_walk using wpAny_loadPart' hl
    refine wpAny_stack_any fun st => wpAny_pure ?_
    split
    · rename_i c _ _ _ _ _
      cases (c == Value.type "enumerate")
      · wp_walk using wpAny_loadPart' hl, wpAny_pyIter_tuple hL
        exact ⟨_, rfl, h⟩
      · wp_walk using wpAny_loadPart' hl, wpAny_pyIter_tuple hL
        exact ⟨_, rfl, h⟩
    · wp_walk using wpAny_loadPart' hl, wpAny_pyIter_tuple hL
      exact ⟨_, rfl, h⟩
section
variable {prog : Program} {w : World} {A : Around} {E : Value → Shared → Prop} {s : Shared}
theorem call_enumerate_tup {l : Addr} {items : Array Value} {Q : Value → Shared → Prop} (hL : s.heap.IsTuple l items)
    (h : ∀ h', IsEnum h' (s.heap.objs.size + 1) s.heap.objs.size 0 .none → h'.IsTupleIter s.heap.objs.size l 0 → h'.objs.size = s.heap.objs.size + 2 →
      (∀ b o, s.heap.get? b = some o → h'.get? b = some o) → Q (.ref (s.heap.objs.size + 1)) { s with heap := h' }) :
    wpAny (model prog w) A (call (.type "enumerate") [.ref l]) Q E s := by
  obtain ⟨⟨c, dct, dt, sl⟩, hl, hc, n, hd⟩ := hL
  replace hc : c = .type "tuple" := hc
  replace hd : dt = .seq items n := hd
  subst hc hd
  refine callType_new F.called_enumerate (by decide) (F.typeCall_enumerate_1 _) (F.newCall_enumerate_1 _) (fun obj => F.args_object_init_2 obj _) F.entry_enumerate_new
    (meets_enumerate_newT l items n dct sl) ⟨hl, ?_⟩
  have hz : (s.heap.push { cls := .type "tuple_iterator", data := .fields #[.ref l, .int 0 0] }).objs.size = s.heap.objs.size + 1 := Heap.size_push ..
  show _ ∧ _
  rw [hz]
  have he : IsEnum ((s.heap.push { cls := .type "tuple_iterator", data := .fields #[.ref l, .int 0 0] }).push
      { cls := .type "enumerate", data := .fields #[.none, .bool false, .ref s.heap.objs.size, rawInt 0, .none, .none] }) (s.heap.objs.size + 1) s.heap.objs.size 0 .none := by
    have := Heap.get?_push_size (s.heap.push { cls := .type "tuple_iterator", data := .fields #[.ref l, .int 0 0] })
      (o := { cls := .type "enumerate", data := .fields #[.none, .bool false, .ref s.heap.objs.size, rawInt 0, .none, .none] }) rfl
    rw [hz] at this; exact this
  refine ⟨⟨_, he, rfl⟩, h _ he ⟨_, Heap.get?_push_of_some _ (Heap.get?_push_size _ rfl), rfl, rfl⟩ (by rw [Heap.size_push, hz]) fun b o x => Heap.get?_push_of_some _ (Heap.get?_push_of_some _ x)⟩
end
end PySem
namespace Px
open PySem PySem.Spec PyProof.Rows L2
/-- the tuple at a, each item in a new pair -/
def IteT (K : PySem.W.Frag) (a : Addr) : It :=
  ⟨fun i H => ∃ (xs : List V) (x : V), SqT K H a xs ∧ xs[i]? = some x, fun i H v H' => ∃ T x, v = .ref T ∧ H T = none ∧ H' = upd H T (.tup [.int (i : Nat), x]) ∧ ∀ xs, SqT K H a xs → xs[i]? = some x, fun i H => ∃ xs : List V, SqT K H a xs ∧ xs.length = i⟩
theorem turn_enumT {P : Program} {w : World} {K : PySem.W.Frag} {elts : List Expr} {kk : Nat} {tpos : Pos} (a e it : Addr) :
    Turn P w K (.Tuple elts kk tpos) (IteT K a) [e, it] e (fun i h => (∃ old, IsEnum h e it (0 + ((i : Nat) : Int)) old) ∧ h.IsTupleIter it a i ∧ e ≠ it) where
  mem := by simp
  obj := fun i h st b hb => by
    obtain ⟨⟨old, he⟩, ⟨o, ho, hc, hd⟩, _⟩ := st
    have e' : b = e ∨ b = it := by simpa using hb
    rcases e' with z | z
    · rw [z]; exact ⟨_, he, fun v q => nomatch q⟩
    · rw [z]; exact ⟨o, ho, fun v q => by rw [hd] at q; cases q⟩
  keep := fun i h h' st k => let ⟨⟨old, he⟩, hi, hne⟩ := st; ⟨⟨old, k e (by simp) _ he⟩, hi.at fun o q => k it (by simp) o q, hne⟩
  item := by
    intro X hP hw hK hc i pins s σ H E I hf st hg
    subst hP hw hK
    obtain ⟨he, hit, hne⟩ := st
    obtain ⟨xs, x, hq, hx⟩ := hg
    obtain ⟨its, rv, p, hz⟩ := I.tuple hq
    obtain ⟨u, hu, ru⟩ := rv.get hx
    have hit2 : a ≠ it := by
      intro z
      subst z
      obtain ⟨o, ho, hc2, hd2⟩ := hit
      obtain ⟨o2, ho2, _, n2, hd3⟩ := p
      rw [ho] at ho2; cases ho2
      rw [hd2] at hd3; cases hd3
    have hea : e ≠ a := by
      intro z
      subst z
      obtain ⟨old, he⟩ := he
      obtain ⟨o2, ho2, _, n2, hd3⟩ := p
      have he' : s.heap.get? e = _ := he
      rw [he'] at ho2; cases ho2
      cases hd3
    have G := GoesN.enumFrom (elts := elts) (x1 := kk) (pos := tpos) 0 (Draws.tuple (prog := X.prog) (w := X.w) (A := X.A.in1) (I.ok.hd hc) it a hit2 its.toArray) e hne (by simp [hne, hea]) (by simp)
    have lt : i < its.toArray.size := by
      have := rv.length
      have h2 : i < xs.length := (List.getElem?_eq_some_iff.mp hx).1
      simp only [List.size_toArray]
      omega
    have nw : ∀ b, b ∈ [e, it] → b < s.heap.objs.size := by
      intro b hb
      obtain ⟨old, he⟩ := he
      obtain ⟨o, ho, _⟩ := hit
      have e' : b = e ∨ b = it := by simpa using hb
      rcases e' with z | z
      · rw [z]; exact Heap.lt_size he
      · rw [z]; exact Heap.lt_size ho
    refine G.goes i s _ E lt ⟨he, hit, p⟩ fun v h' tk hy st' hk _ => ?_
    obtain ⟨T, t, y, rfl, hT, hy', ht⟩ := hy
    have ey : y = u := by
      have : its[i]? = some y := by simpa using hy'
      rw [hu] at this
      exact (Option.some.inj this).symm
    subst ey
    have hn : H T = none := I.hok.fresh hT
    have new : ObjOk X.prog X.w (upd H T (.tup [.int (i : Nat), x])) h' T (.tup [.int (i : Nat), x]) := ⟨by show 2 ≤ sizeLine; decide, [_, y], .cons ⟨t, by simp⟩ (.cons ru .nil), ht⟩
    refine ⟨.ref T, _, I.turnedNew (ch := [e, it]) (fun b o hb q => hk b o hb q) hf hT new, rfl, ⟨T, x, rfl, hn, rfl, fun ys hy => by rw [I.tuple_inj hy hq]; exact hx⟩, ⟨st'.1, st'.2.1, hne⟩, fun c hcm => ?_⟩
    rw [upd_ne (Nat.ne_of_lt (Nat.lt_of_lt_of_le (nw c hcm) hT))]
    exact (hf c hcm).1
  done := by
    intro X hP hw hK hc i pins s σ H E I hf st hg
    subst hP hw hK
    obtain ⟨he, hit, hne⟩ := st
    obtain ⟨xs, hq, hx⟩ := hg
    obtain ⟨its, rv, p, hz⟩ := I.tuple hq
    have hit2 : a ≠ it := by
      intro z
      subst z
      obtain ⟨o, ho, hc2, hd2⟩ := hit
      obtain ⟨o2, ho2, _, n2, hd3⟩ := p
      rw [ho] at ho2; cases ho2
      rw [hd2] at hd3; cases hd3
    have hea : e ≠ a := by
      intro z
      subst z
      obtain ⟨old, he⟩ := he
      obtain ⟨o2, ho2, _, n2, hd3⟩ := p
      have he' : s.heap.get? e = _ := he
      rw [he'] at ho2; cases ho2
      cases hd3
    have G := GoesN.enumFrom (elts := elts) (x1 := kk) (pos := tpos) 0 (Draws.tuple (prog := X.prog) (w := X.w) (A := X.A.in1) (I.ok.hd hc) it a hit2 its.toArray) e hne (by simp [hne, hea]) (by simp)
    have en : its.toArray.size = i := by
      have := rv.length
      simp only [List.size_toArray]
      omega
    rw [en] at G
    exact G.stops s _ E ⟨he, hit, p⟩ fun h' tk hk _ => I.turnedL (ch := [e, it]) (fun b o hb q => hk b o hb q) hf
  self := fun A i s Q E st h => let ⟨⟨_, he⟩, _⟩ := st; wpAny_pyIter_enum he h
def iEnumT (K : PySem.W.Frag) (ta : TA) : TI := fun σ H R => ta σ H fun vs H1 => ∃ a xs, vs = [.ref a] ∧ SqT K H1 a xs ∧ R (IteT K a) H1
theorem pi_enumT {X : Cx} {e : Expr} {ta : TA} {p pos tpos : Pos} {elts : List Expr} {kk : Nat} (hg : Gl X "enumerate") (hm : X.mg "enumerate" = none) (ha : PA X [e] ta) (hs : starEach [e] X.env = [(false, eval e X.env)] := by rfl) :
    PI X (.Tuple elts kk tpos) (.Call (.Name "enumerate" p) [e] [] pos) (iEnumT X.K ta) := by
  refine ⟨fun pins s σ H R I h => ?_⟩
  refine Call_ (ld_blt I hg hm boot_enumerate (PyProof.Rows.callWith_type1 (thn (ha.run pos pins s σ H _ I h) fun us s1 ⟨vs, H1, I1, r1, q1⟩ => ?_) hs rfl))
  obtain ⟨a, xs, ex, hq, q⟩ := q1
  subst ex
  cases r1 with
  | cons r rr =>
    cases rr
    cases r
    obtain ⟨its, rv, p', hz⟩ := I1.tuple hq
    refine PySem.call_enumerate_tup p' fun h' he hit hsz hk => wpAny_pyIter_enum he ?_
    have I2 : Inv X pins σ H1 { s1 with heap := h' } := I1.kept (t' := s1.toks) hk
    refine ⟨s1.heap.objs.size + 1, [s1.heap.objs.size + 1, s1.heap.objs.size], _, _, H1, rfl, I2, turn_enumT a (s1.heap.objs.size + 1) s1.heap.objs.size, ⟨⟨.none, he⟩, hit, Nat.succ_ne_self _⟩, fun b hb => ?_, q⟩
    have e' : b = s1.heap.objs.size + 1 ∨ b = s1.heap.objs.size := by simpa using hb
    have hle : s1.heap.objs.size ≤ b := by
      rcases e' with z | z
      · rw [z]; exact Nat.le_add_right _ _
      · rw [z]; exact Nat.le_refl _
    exact I1.fpOk hle (I1.hok.fresh hle)
theorem walk_enumT {K : PySem.W.Frag} {a : Addr} {xs : List V} : Walk (IteT K a) xs.length (fun H => SqT K H a xs) (YPair (fun i => some (.int (i : Nat))) (fun i => xs[i]?)) := by
  refine ⟨fun i _ hi q => ⟨xs, xs[i], q, by simp [hi]⟩, fun _ q => ⟨xs, q, rfl⟩, fun i H v H' _ q y => ?_⟩
  obtain ⟨T, x, h1, h2, h3, h4⟩ := y
  exact ⟨T, .int (i : Nat), x, h1, h2, h3, rfl, h4 xs q⟩
/-- over a list, a text or a tuple -/
def iEnumA (K : PySem.W.Frag) (ta : TA) : TI := fun σ H R => iEnumU K ta σ H R ∨ iEnumT K ta σ H R
theorem pi_enumA {X : Cx} {e : Expr} {ta : TA} {p pos tpos : Pos} {elts : List Expr} {kk : Nat} (hg : Gl X "enumerate") (hm : X.mg "enumerate" = none) (ha : PA X [e] ta) (hs : starEach [e] X.env = [(false, eval e X.env)] := by rfl) :
    PI X (.Tuple elts kk tpos) (.Call (.Name "enumerate" p) [e] [] pos) (iEnumA X.K ta) := PI.or (pi_enumU hg hm ha hs) (pi_enumT hg hm ha hs)
section
variable {K : PySem.W.Frag} {σ : S} {H : Hp} {tr : TA}
theorem r_enumAL {R : It → Hp → Prop} (h : tr σ H fun vs H1 => ∃ a xs, vs = [.ref a] ∧ SqL K H1 a xs ∧ R (Ite K a) H1) : iEnumA K tr σ H R := .inl (.inl h)
theorem r_enumAS {R : It → Hp → Prop} (h : tr σ H fun vs H1 => ∃ z : Str, vs = [.str z] ∧ R (ItP z.cps.size (fun i => some (.int (i : Nat))) (sgn z)) H1) : iEnumA K tr σ H R := .inl (.inr h)
theorem r_enumAT {R : It → Hp → Prop} (h : tr σ H fun vs H1 => ∃ a xs, vs = [.ref a] ∧ SqT K H1 a xs ∧ R (IteT K a) H1) : iEnumA K tr σ H R := .inr h
end
end Px

namespace Px
open PySem PySem.Spec PyProof.Rows L2
theorem hu65 {k : Nat} {A : Around} (hr : Room k A) : A.units + 65 < cLine := by have := hr.un; omega
/-! ### either of two readings -/
def tOrE (t1 t2 : TE) : TE := fun σ H Q => t1 σ H Q ∨ t2 σ H Q
theorem pe_or2 {X : Cx} {e : Expr} {t1 t2 : TE} (h1 : PE X e t1) (h2 : PE X e t2) : PE X e (tOrE t1 t2) := PE.or h1 h2
theorem r_orL {t1 t2 : TE} {σ : S} {H : Hp} {Q : VK} (h : t1 σ H Q) : tOrE t1 t2 σ H Q := .inl h
theorem r_orR {t1 t2 : TE} {σ : S} {H : Hp} {Q : VK} (h : t2 σ H Q) : tOrE t1 t2 σ H Q := .inr h
/-! ### instances called -/
theorem callO_of {K : PySem.W.Frag} {C f : Addr} {x qual : Str} {params : Arguments} {body : List Stmt} {scope : Scope} {dvs : List V} {kws : List (Str × V)} {fd : FuncData} (M : Meth K C "__call__" f) (F : FunD K x qual params body scope dvs kws f fd) : StX.CallO K C f := by
  refine ⟨M.at_, M.fn, ?_⟩
  obtain ⟨oc, od, dV, kV, doc, pm, an, cdv, ct, osl, e, lk, _⟩ := F.ex
  unfold PySem.W.fnIn
  rw [lk]
def tCallOS (C : Addr) (sp : Sp) (W : L2.St → XK) (tf : TE) (t : TA) : TE := fun σ H Q => tf σ H fun y H1 => ∃ a, y = V.ref a ∧ t σ H1 fun vs H2 => (∃ dx fs, H2 a = some (.ins C dx fs)) ∧ sp (V.ref a :: vs) H2 Q (W σ)
section
variable {X : Cx} {CX : CXT} {k i : Nat} {f g C : Addr} {fd : FuncData} {ps : List Str} {sp : Sp} {W : L2.St → XK} {x m : Str} {e o fe : Expr} {es : List Expr} {te tf ta : TE} {t : TA} {p pos apos : Pos}
theorem run_fnSc {pins : List (Addr × Obj)} {σ : L2.St} {H : Hp} {s : Shared} {Q : VK} {us : List Value} {vs : List V} (F : FnOk X.prog X.w X.K X.mg X.base CX k f fd ps sp) (hr : Room k X.A) (hb : Binds X.K fd ps []) (hx : PassesAt CX X σ (W σ))
    (I : Inv X pins σ H s) (r : Vals vs us) (h : sp vs H Q (W σ)) : codeAny (model X.prog X.w) X.A (.call (.ref f) ⟨us, []⟩) (fun r s' => match r with | .ok (.ret v) => EP X pins σ Q v s' | .ok _ => False | .error e => X.xe e s') s := by
  have hl : us.length = ps.length := by rw [← r.length]; exact F.len _ _ _ _ h
  have b := hb s us I.kIn (by rw [List.append_nil]; exact hl)
  rw [List.append_nil] at b
  refine codeAny_mono (F.run X.A X.stack s H ⟨us, []⟩ us vs Q (W σ) hr I.env0 b r h) fun r s' hq => ?_
  cases r with
  | error e => exact hx pins H s e s' I hq
  | ok fl =>
    cases fl with
    | ret u => exact I.after hq
    | next => exact False.elim hq
    | brk => exact False.elim hq
    | cont => exact False.elim hq
theorem pe_callOS (hf : PE X fe tf) (c : StX.CallO X.K C g) (F : FnOk X.prog X.w X.K X.mg X.base CX k g fd ps sp) (hr : Room k X.A) (hb : Binds X.K fd ps []) (hx : ∀ σ, PassesAt CX X σ (W σ)) (ha : PA X (e :: es) t)
    (ht : eval (.Call fe (e :: es) [] pos) X.env = (do callWith pos (← eval fe X.env) [] (backTo pos (starEach (e :: es) X.env)) (backToKw pos (keywordEach [] X.env))) := by rfl)
    (he : starEach (e :: es) X.env = (false, eval e X.env) :: starEach es X.env := by rfl) (hpl : (backTo pos (starEach es X.env)).any (·.1) = false := by rfl) : PE X (.Call fe (e :: es) [] pos) (tCallOS C sp W tf t) := by
  refine ⟨fun pins s σ H Q I h => ?_⟩
  refine Call_ (thn (hf.run pins s σ H _ I h) fun u s1 ⟨y, H1, I1, ry, a, ey, q⟩ => ?_) ht
  subst ey
  obtain rfl : u = Value.ref a := ry
  refine StX.callO_with (thn (ha.run pos pins s1 σ H1 _ I1 q) fun us s2 ⟨vs, H2, I2, r, ⟨dx, fs, hi⟩, q2⟩ => ?_) he hpl
  obtain ⟨ox, od, J, hd⟩ := StX.insC_at I2 (.inr ⟨dx, fs, hi⟩)
  exact ⟨⟨C, ox, od, J, hd⟩, wpAny_call (PySem.W.kco_code I2.kIn J hd c.at_ c.fn c.fi (run_fnSc (us := .ref a :: us) (vs := .ref a :: vs) F hr hb (hx σ) I2 (.cons rfl r) q2))⟩
/-! ### methods that let something out -/
def tMethS (C : Addr) (m : Str) (sp : Sp) (W : L2.St → XK) (ta : TE) (t : TA) : TE := fun σ H Q => ta σ H fun x H1 => ∃ a dx fs, x = .ref a ∧ H1 a = some (.ins C dx fs) ∧ fs.lookup m = none ∧ t σ H1 fun vs H2 => sp (.ref a :: vs) H2 Q (W σ)
theorem pe_methS {pl : Sem Bool} (he : PE X o ta) (c : Cls X.K C) (hm : Meth X.K C m f) (F : FnOk X.prog X.w X.K X.mg X.base CX k f fd ps sp) (hr : Room k X.A) (hb : Binds X.K fd ps []) (hx : ∀ σ, PassesAt CX X σ (W σ)) (ha : PA X (e :: es) t)
    (hst : starEach (e :: es) X.env = (false, eval e X.env) :: starEach es X.env := by rfl) (hpl : (backTo pos (starEach es X.env)).any (·.1) = false := by rfl)
    (ht : eval (.Call (.Attribute o m apos) (e :: es) [] pos) X.env = (do
      let ov ← eval o X.env
      standAt apos.atName
      let (f, first) ← holding [ov] (getMethod ov m pl)
      callWith pos f first (backTo pos (starEach (e :: es) X.env)) (backToKw pos (keywordEach [] X.env))) := by rfl) :
    PE X (.Call (.Attribute o m apos) (e :: es) [] pos) (tMethS C m sp W ta t) := by
  refine ⟨fun pins s σ H Q I h => ?_⟩
  refine PySem.W.methodCall_KW (pl := pl) (thn (he.run pins s σ H _ I h) fun u s1 ⟨x, H1, I1, rx, a, dx, fs, ex, ea, l, q⟩ => ?_) ht
  subst ex
  obtain rfl : u = Value.ref a := rx
  refine getmeth_ok I1 ea c hm l ?_
  refine PySem.W.callWith_K (first := [.ref a]) (h₀ := X.base) I.ok.mod.kin hm.kp (thn (ha.run pos pins s1 σ H1 _ I1 q) fun us s2 ⟨vs, H2, I2, r, q2⟩ => ⟨I2.kIn, ?_⟩) hst hpl
  exact run_fnS (us := .ref a :: us) (vs := .ref a :: vs) F hr hb (hx σ) I2 (.cons rfl r) q2
theorem pe_methS0 {pl : Sem Bool} (he : PE X o ta) (c : Cls X.K C) (hm : Meth X.K C m f) (F : FnOk X.prog X.w X.K X.mg X.base CX k f fd ps sp) (hr : Room k X.A) (hb : Binds X.K fd ps []) (hx : ∀ σ, PassesAt CX X σ (W σ))
    (ht : eval (.Call (.Attribute o m apos) [] [] pos) X.env = (do
      let ov ← eval o X.env
      standAt apos.atName
      let (f, first) ← holding [ov] (getMethod ov m pl)
      callWith pos f first (backTo pos (starEach [] X.env)) (backToKw pos (keywordEach [] X.env))) := by rfl) :
    PE X (.Call (.Attribute o m apos) [] [] pos) (tMethS C m sp W ta tNil) := by
  refine ⟨fun pins s σ H Q I h => ?_⟩
  refine PySem.W.methodCall_KW (pl := pl) (thn (he.run pins s σ H _ I h) fun u s1 ⟨x, H1, I1, rx, a, dx, fs, ex, ea, l, q⟩ => ?_) ht
  subst ex
  obtain rfl : u = Value.ref a := rx
  refine getmeth_ok I1 ea c hm l ?_
  exact PySem.W.callWith_K0 (first := [.ref a]) I1.kIn hm.kp (run_fnS (us := [.ref a]) (vs := [.ref a]) F hr hb (hx σ) I1 (.cons rfl .nil) q)
/-! ### a field as one of several targets -/
def gFld (K : PySem.W.Frag) (to : TE) (f : Str) : TG := fun v σ H P => to σ H fun x H1 => ∃ a C dx fs, x = .ref a ∧ H1 a = some (.ins C dx fs) ∧ Cls K C ∧ NoAttr K C f ∧ fs.length < 1000 ∧ P σ (upd H1 a (.ins C dx (putF f v fs)))
theorem pg_fld {f : Str} (ho : PE X o ta) : PG X (.Attribute o f pos) (gFld X.K ta f) := by
  refine ⟨fun pins s σ H v u Q I r h => ?_⟩
  rw [assign_Attribute]
  refine wpAny_bind (wpAny_holding (thn (ho.run pins s σ H _ I h) fun ov s1 ⟨x, H1, I1, rx, a, C, dx, fs, ex, ea, c, n, l, q⟩ => ?_))
  subst ex
  obtain rfl : ov = Value.ref a := rx
  refine wpAny_bind (wpAny_standAt (wpAny_bind (wpAny_holding (setattr_ok I1 ea c n l r fun s2 I2 => ?_))))
  exact wpAny_release ⟨σ, _, I2, q⟩
end
/-! ### star arguments -/
def spStar (n : Nat) (sp : Sp) : Sp := fun vs H Q E => ∃ ws rest, vs = ws ++ rest ∧ ws.length = n ∧ rest.length ≤ sizeLine ∧ ∀ p, H p = none → sp (ws ++ [V.ref p]) (upd H p (.tup rest)) Q E
section
variable  {P : Program} {w : World} {K : PySem.W.Frag} {mg : Str → Option Value} {base : Heap} {CX : CXT} {k : Nat} {f : Addr} {name qual pv : Str} {params : Arguments} {body : List Stmt} {scope : Scope} {dvs : List V} {kws : List (Str × V)} {fd : FuncData} {N ps : List Str} {sp : Sp}
theorem fnr_star (F : FunD K name qual params body scope dvs kws f fd) (S : FnScope N (ps ++ [pv]) scope) (hCX : StX.CXUp CX)
    (hb : ∀ (dV kV doc pm : Value) (an : Option Addr) (cdv ct : Value) (us rest : List Value), us.length = ps.length → bindArgs (PySem.W.fnOf name qual params body scope dV kV doc pm an cdv ct) ⟨us ++ rest, []⟩ = (newTuple rest >>= fun t => pure (ps.zip us ++ [(pv, t)])))
    (hbody : ∀ (cdv : Value) (A : Around) (outer : List Env) (s : Shared) (H : Hp) (vs : List V) (Q : VK) (E : XK), Room k (A.deeper (envOfC qual scope s.heap.objs.size f cdv)) → sp vs H Q E →
      ∃ t, PSs (cxOf CX P w K mg base N qual scope f cdv A outer s H E) body t ∧ t { nx := fun _ H' => Q .non H', rt := Q } (start N vs) H) :
    FnR P w K mg base CX (k + 1) f (spStar ps.length sp) := by
  obtain ⟨oc, od, dV, kV, doc, pm, an, cdv, ct, osl, rfl, lk, hcd, _, _⟩ := F.ex
  exact StX.fn_star lk hcd S hCX (hb dV kV doc pm an cdv ct) (hbody cdv)
end
section
variable {X : Cx} {CX : CXT} {k : Nat} {f : Addr} {sp : Sp} {W : L2.St → XK} {x : Str} {e : Expr} {es : List Expr} {t : TA} {p pos : Pos}
theorem run_fnRS {pins : List (Addr × Obj)} {σ : L2.St} {H : Hp} {s : Shared} {Q : VK} {us : List Value} {vs : List V} (F : FnR X.prog X.w X.K X.mg X.base CX k f sp) (hr : Room k X.A) (hx : PassesAt CX X σ (W σ)) (I : Inv X pins σ H s) (r : Vals vs us) (h : sp vs H Q (W σ)) :
    codeAny (model X.prog X.w) X.A (.call (.ref f) ⟨us, []⟩) (fun r s' => match r with | .ok (.ret v) => EP X pins σ Q v s' | .ok _ => False | .error e => X.xe e s') s := by
  refine codeAny_mono (F X.A X.stack s H us vs Q (W σ) hr I.env0 r h) fun r s' hq => ?_
  cases r with
  | error e => exact hx pins H s e s' I hq
  | ok fl =>
    cases fl with
    | ret u => exact I.after hq
    | next => exact False.elim hq
    | brk => exact False.elim hq
    | cont => exact False.elim hq
theorem pe_callR (F : FnR X.prog X.w X.K X.mg X.base CX k f sp) (hr : Room k X.A) (hg : Gl X x) (hm : X.mg x = some (.ref f)) (hk : PySem.W.keepIn X.K (.ref f) = true) (hx : ∀ σ, PassesAt CX X σ (W σ))
    (ha : PA X (e :: es) t) (hdb : (x == ("__debug__" : Str)) = false := by decide) (he : starEach (e :: es) X.env = (false, eval e X.env) :: starEach es X.env := by rfl) (hpl : (backTo pos (starEach es X.env)).any (·.1) = false := by rfl) :
    PE X (.Call (.Name x p) (e :: es) [] pos) (tCallS sp W t) := by
  refine ⟨fun pins s σ H Q I h => ?_⟩
  refine wpAny_Call_Name_kw (ld_glob I hg hm ?_ hdb)
  refine PySem.W.callWith_K (h₀ := X.base) I.ok.mod.kin hk (thn (ha.run pos pins s σ H _ I h) fun us s1 ⟨vs, H1, I1, r, q⟩ => ⟨I1.kIn, ?_⟩) he hpl
  exact wpAny_call (run_fnRS F hr (hx σ) I1 r q)
end
/-! ### steps -/
section
variable {K : PySem.W.Frag} {σ : S} {H : Hp} {Q : VK} {D : Ends} {x y v : V}
theorem r_callOS {C : Addr} {sp : Sp} {W : L2.St → XK} {t : TA} {i : Nat} {a : Addr} (h0 : σ[i]? = some (some (.ref a))) (h : t σ H fun vs H2 => (∃ dx fs, H2 a = some (.ins C dx fs)) ∧ sp (V.ref a :: vs) H2 Q (W σ)) : tCallOS C sp W (tVar i) t σ H Q := ⟨_, h0, a, rfl, h⟩
theorem r_methS {C : Addr} {m : Str} {sp : Sp} {W : L2.St → XK} {t : TA} {i : Nat} {a dx : Addr} {fs : List (Str × V)} (h0 : σ[i]? = some (some (.ref a))) (h1 : H a = some (.ins C dx fs)) (h2 : fs.lookup m = none) (h : t σ H fun vs H2 => sp (V.ref a :: vs) H2 Q (W σ)) : tMethS C m sp W (tVar i) t σ H Q := ⟨_, h0, a, dx, fs, rfl, h1, h2, h⟩
theorem r_methI {C : Addr} {m : Str} {sp : Sp} {E : XK} {t : TA} {i : Nat} {a dx : Addr} {fs : List (Str × V)} (h0 : σ[i]? = some (some (.ref a))) (h1 : H a = some (.ins C dx fs)) (h2 : fs.lookup m = none) (h : t σ H fun vs H2 => sp (V.ref a :: (vs ++ [])) H2 Q E) : tMeth C m sp [] E (tVar i) t σ H Q := ⟨_, h0, a, dx, fs, rfl, h1, h2, h⟩
theorem r_propI {C : Addr} {sp : Sp} {E : XK} {i : Nat} {a dx : Addr} {fs : List (Str × V)} (h0 : σ[i]? = some (some (.ref a))) (h1 : H a = some (.ins C dx fs)) (h : sp [V.ref a] H Q E) : tProp C sp [] E (tVar i) σ H Q := ⟨_, h0, a, dx, fs, rfl, h1, h⟩
theorem r_fldI {f : Str} {i : Nat} {a C dx : Addr} {fs : List (Str × V)} (h0 : σ[i]? = some (some (.ref a))) (h1 : H a = some (.ins C dx fs)) (c : Cls K C) (n : NoAttr K C f) (h2 : fs.lookup f = some v) (h : Q v H) : tFld K (tVar i) f σ H Q := ⟨_, h0, a, C, dx, fs, v, rfl, h1, c, n, h2, h⟩
theorem r_gFld {f : Str} {i : Nat} {a C dx : Addr} {fs : List (Str × V)} {P : S → Hp → Prop} (h0 : σ[i]? = some (some (.ref a))) (h1 : H a = some (.ins C dx fs)) (c : Cls K C) (n : NoAttr K C f) (hl : fs.length < 1000) (h : P σ (upd H a (.ins C dx (putF f v fs)))) : gFld K (tVar i) f v σ H P := ⟨_, h0, a, C, dx, fs, rfl, h1, c, n, hl, h⟩
theorem r_gUnl {n : Nat} {gs : TGs} {a : Addr} {xs : List V} {P : S → Hp → Prop} (h1 : SqL K H a xs) (h2 : xs.length = n) (h : gs xs σ H P) : gUnl K n gs (.ref a) σ H P := ⟨a, xs, rfl, h1, h2, h⟩
theorem r_lstRg {te : L2.St → Hp → (Int → Int → Hp → Prop) → Prop} (h : te σ H fun a b H1 => RgOk a b ∧ ∀ q, H1 q = none → Q (.ref q) (upd H1 q (.lst (rgV a b)))) : tLstRg te σ H Q := h
end
end Px

namespace Px
open PySem PySem.Spec PyProof.Rows L2
/-! ### star arguments: what is bound -/
def StarB (ps : List Str) (pv : Str) (B : List Value → Sem (List (Str × Value))) : Prop := ∀ us rest : List Value, us.length = ps.length → B (us ++ rest) = (newTuple rest >>= fun t => pure (ps.zip us ++ [(pv, t)]))
theorem starB1 {B : List Value → Sem (List (Str × Value))} {p1 pv : Str} (h0 : ∀ a, B [a] = (newTuple [] >>= fun t => pure [(p1, a), (pv, t)])) (h1 : ∀ a r rs, B (a :: r :: rs) = (newTuple (r :: rs) >>= fun t => pure [(p1, a), (pv, t)])) : StarB [p1] pv B := StX.bind_star1 h0 h1
theorem starB2 {B : List Value → Sem (List (Str × Value))} {p1 p2 pv : Str} (h0 : ∀ a b, B [a, b] = (newTuple [] >>= fun t => pure [(p1, a), (p2, b), (pv, t)])) (h1 : ∀ a b r rs, B (a :: b :: r :: rs) = (newTuple (r :: rs) >>= fun t => pure [(p1, a), (p2, b), (pv, t)])) : StarB [p1, p2] pv B := StX.bind_star2 h0 h1
section
variable  {P : Program} {w : World} {K : PySem.W.Frag} {mg : Str → Option Value} {base : Heap} {CX : CXT} {k : Nat} {f : Addr} {name qual pv : Str} {params : Arguments} {body : List Stmt} {scope : Scope} {dvs : List V} {kws : List (Str × V)} {fd : FuncData} {N ps : List Str} {sp : Sp}
theorem fnr_starB (F : FunD K name qual params body scope [] kws f fd) (S : FnScope N (ps ++ [pv]) scope) (hCX : StX.CXUp CX)
    (hb : ∀ (kV doc pm : Value) (an : Option Addr) (cdv ct : Value), StarB ps pv fun l => bindArgs (PySem.W.fnOf name qual params body scope .none kV doc pm an cdv ct) ⟨l, []⟩)
    (hbody : ∀ (cdv : Value) (A : Around) (outer : List Env) (s : Shared) (H : Hp) (vs : List V) (Q : VK) (E : XK), Room k (A.deeper (envOfC qual scope s.heap.objs.size f cdv)) → sp vs H Q E →
      ∃ t, PSs (cxOf CX P w K mg base N qual scope f cdv A outer s H E) body t ∧ t { nx := fun _ H' => Q .non H', rt := Q } (start N vs) H) :
    FnR P w K mg base CX (k + 1) f (spStar ps.length sp) := by
  obtain ⟨oc, od, dV, kV, doc, pm, an, cdv, ct, osl, rfl, lk, hcd, hD, _⟩ := F.ex
  rcases hD with ⟨_, rfl⟩ | ⟨e, _⟩
  · exact StX.fn_star lk hcd S hCX (hb kV doc pm an cdv ct) (hbody cdv)
  · exact absurd rfl e
end
end Px

/-! PxTryMany: several except clauses, each with a name. -/
namespace L2
open PySem PySem.Spec PyProof.Rows
/-- what the clauses wish of an exception of the body, one after the other -/
def wAsL (K : PySem.W.Frag) (Wout : WX) (D : Ends) : List (Value × Nat × (Addr → Value → Option Addr → TS)) → WX
  | [] => Wout
  | (c, i, ts) :: r => wAs K c i ts (wAsL K Wout D r) D
inductive HdA (X : Cx) : List ExceptHandler → List (Value × Nat × (Addr → Value → Option Addr → TS)) → Prop
  | nil : HdA X [] []
  | cons {x n : Str} {c : Value} {i : Nat} {ts : Addr → Value → Option Addr → TS} {b₀ : Stmt} {suite : List Stmt} {np pos' : Pos} {hds : List ExceptHandler} {l : List (Value × Nat × (Addr → Value → Option Addr → TS))}
      (hi : X.N[i]? = some n) (hln : X.env.kindOf n = some .local) (hc : Names X x c)
      (hsu : ∀ (a : Addr) (oe : Obj) (cls : Value) (d : Option Addr) (pn : List (Addr × Obj)), Zc cls d oe → (∃ vs, oe.data = .fields vs) → PSs (X.suite a ((a, oe) :: pn)) (b₀ :: suite) (ts a cls d)) (r : HdA X hds l) :
      HdA X (.ExceptHandler (some (.Name x np)) (some n) (b₀ :: suite) pos' :: hds) ((c, i, ts) :: l)
section
variable {X : Cx} {body : List Stmt} {h₀ : ExceptHandler} {hds : List ExceptHandler} {l : List (Value × Nat × (Addr → Value → Option Addr → TS))} {pos : Pos} {tb : WX → TS} {Wout : WX}
theorem ps_try_asL (hs : X.stack = X.env :: X.outer) (hf : X.env.frame = some X.env.locals) (hN : X.N.Nodup) (tk : Takes X Wout)
    (hb : ∀ (W : WX) (pn : List (Addr × Obj)) (xe : Value → Shared → Prop), Takes (X.tr pn xe) W → PassesOwn (model X.prog X.w) X.A X.env xe → PSs (X.tr pn xe) body (tb W))
    (hh : HdA X (h₀ :: hds) l) : PS X (.Try body (h₀ :: hds) [] [] pos) (fun D σ H => tb (wAsL X.K Wout D l) D σ H) := by
  refine ⟨fun pins s σ H D I h => ?_⟩
  have ok := I.ok
  have hfr : X.A.frames = some (X.env :: X.outer) := by rw [ok.frames, hs]
  refine wpAny_Try_except (wpAny_mono ((hb (wAsL X.K Wout D l) (X.pn ++ pins) (fun e s₁ => wpAny (model X.prog X.w) X.A (noteFrame e X.env) (fun _ s₂ => wpAny (model X.prog X.w) X.A (setFlight e none) (fun _ s₃ =>
    wpAny (model X.prog X.w) X.A (handleBy e X.env (h₀ :: hds)) (SP X pins D) X.xe s₃) X.xe s₂) X.xe s₁) (fun u s' xx => ?_) PassesOwn.looking).run [] s σ H D (I.toTry _) h) (fun f s1 hsp => ?_) (fun e s1 he => he))
  · obtain ⟨a, B, sI, pins', σ', H', cls, d, rfl, J', nb, up, sky, na, os, ag, w⟩ := xx
    have J : Inv X pins σ' H' sI := J'.ofTry ok
    have sky' : Sky B (X.env :: X.outer) a (Zc cls d) X.env.locals s'.heap := by rw [← hs]; exact sky
    show wpAny (model X.prog X.w) X.A (noteFrame (.ref a) X.env) _ _ _
    refine Sky.land Zc.steady hfr hf sky' fun h3 fl3 up3 => ?_
    have J3 : Inv X pins σ' H' { s' with heap := h3 } := J.landed nb fl3.1 (up.trans up3) os ag
    obtain ⟨oe3, vs3, he3, hz3, hd3⟩ := fl3.there
    have nfr : a ∉ frs (X.env :: X.outer) := fun hm => by
      obtain ⟨_, o', e', hnf⟩ := fl3.2.2.1.mem hm
      rw [he3] at e'
      cases e'
      exact hnf _ hd3
    have nL : a ≠ X.env.locals := fun z => nfr (List.mem_filterMap.mpr ⟨X.env, List.mem_cons_self, by rw [hf, z]⟩)
    have nF : a ∉ X.fs := fun hm => by
      obtain ⟨e, he, q⟩ := List.mem_filterMap.mp hm
      exact nfr (List.mem_filterMap.mpr ⟨e, List.mem_cons_of_mem _ he, q⟩)
    have S3 := J3.suite he3 hd3 na nL nF
    suffices go : ∀ {hds' : List ExceptHandler} {l' : List (Value × Nat × (Addr → Value → Option Addr → TS))}, HdA X hds' l' → wAsL X.K Wout D l' cls d σ' H' →
        wpAny (model X.prog X.w) X.A (handleBy (.ref a) X.env hds') (SP X pins D) X.xe { s' with heap := h3 } from go hh w
    intro hds' l' hk
    induction hk with
    | nil =>
      intro w
      refine wpAny_handleBy_nil ?_
      obtain ⟨k1, k2, k3, oe, vs, T, oT, ts', he, hz, hd, h1, hr⟩ := id fl3
      unfold PySem.passOn
      refine wpAny_bind (wpAny_field he hd h1 ?_)
      rw [if_neg (show ¬ ((Value.ref T == Value.none) = true) from by simp)]
      have fin : wpAny (model X.prog X.w) X.A (setFlight (.ref a) X.env.frame) (fun _ s4 => wpAny (model X.prog X.w) X.A (throw (.ref a) : Sem Flow) (SP X pins D) X.xe s4) X.xe { s' with heap := h3 } := by
        rw [hf]
        refine HandSPX.setFlight_upZ fl3 fun h4 hh4 up4 => wpAny_throw (tk _ _ ?_)
        exact ⟨a, B, sI, pins, σ', H', cls, d, rfl, J, nb, (up.trans up3).trans up4, .inr (.inr (by rw [hs]; exact hh4)), na, os, ag, w⟩
      first
        | exact wpAny_bind (wpAny_pure (wpAny_bind fin))
        | exact wpAny_bind fin
    | @cons x n c i ts b₀ suite np pos' hds2 l2 hi hln hc hsu r ih =>
      rintro ⟨b, hb1, hyes, hno⟩
      refine wpAny_handleBy_cons (codeAny_handlers_test ?_) (by intro q; cases q)
      have LT : PySem.W.Looks (model X.prog X.w) h3 (typeOf (.ref a)) cls := fun A Q E s k q => wpAny_typeOf_ref (k _ _ he3) (by rw [hz3.1]; exact q)
      have LM := PySem.W.exm_one (M := model X.prog X.w) (J3.kIn) LT hb1
      have test : ∀ {Q : Value → Shared → Prop} {E : Value → Shared → Prop}, Q c { s' with heap := h3 } → wpAny (model X.prog X.w) (X.A.mark (some (.ref a))) (eval (.Name x np) X.env) Q E { s' with heap := h3 } := fun {Q E} q => by
        obtain ⟨hg, hdbg, hm | ⟨hm, hv, hnn⟩⟩ := hc
        · exact ld_glob (X := X.suite a ((a, oe3) :: (X.pn ++ pins))) S3 hg hm q hdbg
        · exact ld_blt (X := X.suite a ((a, oe3) :: (X.pn ++ pins))) S3 hg hm hv q hnn hdbg
      refine test (LM.here ?_)
      cases b with
      | false =>
        show wpAny _ X.A (handleBy (.ref a) X.env hds2) _ _ _
        exact ih (hno rfl)
      | true =>
        refine codeAny_handlers_suite_as (HandSPX.lands_againZ fl3 fun h4 fl4 up4 => ?_)
        have J4 : Inv X pins σ' H' { s' with heap := h4 } := J.landed nb fl4.1 ((up.trans up3).trans up4) os ag
        obtain ⟨oe4, vs4, he4, hz4, hd4⟩ := fl4.there
        have S4 := J4.suite he4 hd4 na nL nF
        refine store_ok (X := X.suite a ((a, oe4) :: (X.pn ++ pins))) (v := .ref a) S4 hN hi (.inl hln) rfl (fun s5 S5 => ?_) (.inr hln)
        refine wpAny_mono ((hsu a oe4 cls d (X.pn ++ pins) hz4 ⟨_, hd4⟩).run [] s5 _ H' _ S5 (hyes rfl a na)) (fun f s6 hsp => ?_) (fun _ _ z => False.elim z)
        have end_ : ∀ {σ6 : St} {H6 : Hp} {Q : Shared → Prop}, Inv (X.suite a ((a, oe4) :: (X.pn ++ pins))) [] σ6 H6 s6 → (∀ s7, Inv X pins (σ6.set i none) H6 s7 → Q s7) →
            wpAny (model X.prog X.w) X.A (do bindName X.env n .none; unbindBehindTheSuite X.env n pos') (fun _ s7 => Q s7) X.xe s6 := fun {σ6 H6 Q} S6 hq => gone_ok (S6.unsuite ok) hN hi hln hq
        cases f with
        | next =>
          obtain ⟨σ6, H6, S6, q6⟩ := hsp
          exact end_ S6 fun s7 J7 => ⟨_, _, J7, q6⟩
        | brk =>
          obtain ⟨σ6, H6, S6, q6⟩ := hsp
          exact end_ S6 fun s7 J7 => ⟨_, _, J7, q6⟩
        | cont =>
          obtain ⟨σ6, H6, S6, q6⟩ := hsp
          exact end_ S6 fun s7 J7 => ⟨_, _, J7, q6⟩
        | ret u =>
          obtain ⟨v6, σ6, H6, S6, r6, q6⟩ := hsp
          exact end_ S6 fun s7 J7 => ⟨_, _, _, J7, r6, q6⟩
  · cases f with
    | next =>
      obtain ⟨σ', H', J', q⟩ := hsp
      exact wpAny_execs_nil ⟨σ', H', J'.ofTry ok, q⟩
    | brk =>
      obtain ⟨σ', H', J', q⟩ := hsp
      exact ⟨σ', H', J'.ofTry ok, q⟩
    | cont =>
      obtain ⟨σ', H', J', q⟩ := hsp
      exact ⟨σ', H', J'.ofTry ok, q⟩
    | ret u =>
      obtain ⟨v, σ', H', J', r, q⟩ := hsp
      exact ⟨v, σ', H', J'.ofTry ok, r, q⟩
end
end L2

/-! PxMakeS: C(e, .., k = v, ..) within a try: what __init__ lets out is told of the slots -/
namespace Px
open PySem PySem.Spec PyProof.Rows L2
def tMakeKS (C : Addr) (n m : Nat) (sp : Sp) (gV : List V → List V → List V) (E : L2.St → XK) (t tk : TA) : TE := fun σ H Q => tMakeK C n m sp gV (E σ) t tk σ H Q
section
variable {X : Cx} {CX : CXT} {k n : Nat} {f C : Addr} {fd : FuncData} {ps ks : List Str} {sp : Sp} {x : Str} {p pos : Pos} {e : Expr} {es : List Expr} {kws : List Keyword} {t tk : TA} {g : List Value → List Value → List Value} {gV : List V → List V → List V}
theorem run_makeKS {pins : List (Addr × Obj)} {σ : L2.St} {H : Hp} {s : Shared} {Q : VK} {us ws : List Value} {vs zs : List V} {E : XK} (M : Mk X.K C f) (F : FnOk X.prog X.w X.K X.mg X.base CX k f fd ps sp) (hr : Room (k + 1) X.A) (hb : KBn X.K fd ps (n + 1) ks g gV) (hx : PassesAt CX X σ E)
    (I : Inv X pins σ H s) (r : Vals vs us) (rz : Vals zs ws) (l1 : vs.length = n) (l2 : zs.length = ks.length)
    (h : ∀ x dx, H x = none → H dx = none → dx ≠ x → sp (gV (.ref x :: vs) zs) (upd (upd H dx (.own x)) x (.ins C dx [])) (fun v H2 => v = .non ∧ Q (.ref x) H2) E) :
    wpAny (model X.prog X.w) X.A (call (.ref C) us (ks.zip ws)) (EP X pins σ Q) X.xe s := by
  have hq := h (s.heap.objs.size + 1) s.heap.objs.size (I.hok.fresh (Nat.le_succ _)) (I.hok.fresh (Nat.le_refl _)) (Nat.ne_of_lt (Nat.lt_succ_self _))
  have I2 := Inv.made (C := C) I
  have r1 : Vals (V.ref (s.heap.objs.size + 1) :: vs) (Value.ref (s.heap.objs.size + 1) :: us) := .cons rfl r
  have n1 : (Value.ref (s.heap.objs.size + 1) :: us).length = n + 1 := by rw [List.length_cons, ← r.length, l1]
  refine wpAny_call (make_map (f := f) I.kIn M.makes M.init (beq_iff_eq.mp M.fn) (codeAny_mono (F.run _ X.stack _ _ ⟨Value.ref (s.heap.objs.size + 1) :: us, ks.zip ws⟩ (g (Value.ref (s.heap.objs.size + 1) :: us) ws) _ _ E (hr.make C us (ks.zip ws))
    (I2.env0.make C us (ks.zip ws)) (hb.to _ (Value.ref (s.heap.objs.size + 1) :: us) ws I2.kIn n1 (rz.length.symm.trans l2)) (hb.rel r1 rz) hq) fun r s' hq' => ?_))
  cases r with
  | error e => exact hx pins _ _ e s' I2 hq'
  | ok fl =>
    cases fl with
    | ret u =>
      obtain ⟨v, H', I3, rv, ev, q3⟩ := I2.after hq'
      subst ev
      exact ⟨rv, ⟨V.ref (s.heap.objs.size + 1), H', I3, rfl, q3⟩⟩
    | next => exact False.elim hq'
    | brk => exact False.elim hq'
    | cont => exact False.elim hq'
theorem pe_makeKS {E : L2.St → XK} (M : Mk X.K C f) (F : FnOk X.prog X.w X.K X.mg X.base CX k f fd ps sp) (hr : Room (k + 1) X.A) (hg : Gl X x) (hm : X.mg x = some (.ref C)) (hb : KBn X.K fd ps (n + 1) ks g gV) (hx : ∀ σ, PassesAt CX X σ (E σ)) (ha : PA X (e :: es) t) (hkw : PK X kws tk)
    (hall : (backToKw pos (keywordEach kws X.env)).all (·.1.isSome) = true := by rfl) (hks : (backToKw pos (keywordEach kws X.env)).filterMap (·.1) = ks := by rfl) (hdb : (x == ("__debug__" : Str)) = false := by decide)
    (he : starEach (e :: es) X.env = (false, eval e X.env) :: starEach es X.env := by rfl) (hpl : ((backTo pos (starEach (e :: es) X.env)).any (·.1) || (backToKw pos (keywordEach kws X.env)).any (·.1.isNone)) = false := by rfl) :
    PE X (.Call (.Name x p) (e :: es) kws pos) (tMakeKS C n ks.length sp gV E t tk) := by
  refine ⟨fun pins s σ H Q I h => ?_⟩
  refine wpAny_Call_Name_kw (ld_glob I hg hm ?_ hdb)
  refine PySem.W.callWith_KW (h₀ := X.base) I.ok.mod.kin M.kp hall (thn (ha.run pos pins s σ H _ I h) fun us s1 ⟨vs, H1, I1, r, q⟩ => ?_) hpl he
  refine thn (hkw.run pos pins s1 σ H1 _ I1 q) fun ws s2 ⟨zs, H2, I2, rz, l1, l2, q2⟩ => ⟨I2.kIn, ?_⟩
  rw [hks]
  exact run_makeKS M F hr hb (hx σ) I2 r rz l1 l2 q2
end
end Px

/-! PxIsXT: isinstance(e, (c1, c2, ..)), e the exception that the suite holds -/
namespace Px
open PySem PySem.Spec PyProof.Rows L2
def rIsXT (K : PySem.W.Frag) (a : Addr) (cls : Value) (d : Option Addr) : List V → Hp → VK → Prop := fun xs H Q => ∃ (D tp : Addr) (cs : List V) (us : List Value) (b : Bool), xs = [.ref a, .ref tp] ∧ H tp = some (.tup cs) ∧ Paired ClsV cs us ∧ cls = .ref D ∧ ExcA K D ∧ (d = none ∨ ∃ dd fs, d = some dd ∧ H dd = some (.xd fs)) ∧ PySem.W.kitAny K (.ref D) us = some b ∧ Q (.bl b) H
theorem call_isXT {X : Cx} {a : Addr} {cls : Value} {d : Option Addr} {oe : Obj} {pn : List (Addr × Obj)} (hz : Zc cls d oe) (hf : ∃ vs, oe.data = .fields vs) : CallR (X.suite a ((a, oe) :: pn)) (.builtin "isinstance") (rIsXT X.K a cls d) := by
  intro pins s σ H xs us Q I r h
  obtain ⟨D, tp, cs, ws, b, rfl, hT, k, rfl, C, hd, e, q⟩ := h
  obtain ⟨u1, u2, rfl, r1, r2⟩ := vals2 r
  obtain rfl : u1 = Value.ref a := r1
  cases (show u2 = Value.ref tp from r2)
  obtain ⟨hget, _⟩ := I.pin (a, oe) (List.mem_append.mpr (.inl List.mem_cons_self))
  obtain ⟨vs, hv⟩ := hf
  have J : ∃ od, PySem.W.InstAt s.heap a oe D od := by
    rcases hd with rfl | ⟨dd, fs, rfl, hdd⟩
    · exact ⟨none, hget, hz.1, by unfold PySem.W.notCls; rw [hv] <;> rfl, by rw [hz.2]; trivial⟩
    · have hx : ObjOk X.prog X.w H s.heap dd (.xd fs) := I.hok dd _ hdd
      obtain ⟨mA, hns, hr⟩ := hx
      obtain ⟨od, ho, hl⟩ := lookIn_ns hns
      exact ⟨some od, hget, hz.1, by unfold PySem.W.notCls; rw [hv] <;> rfl, by rw [hz.2]; exact ho⟩
  obtain ⟨od, J⟩ := J
  have hcl : (PySem.W.clsIn X.K D).isSome = true := by
    have := C.xf.hdC
    unfold PySem.W.hasDictIn at this
    cases z : PySem.W.clsIn X.K D with
    | none => rw [z] at this; cases this
    | some _ => rfl
  obtain ⟨_, its, rv, o, h1, h2, n, h3⟩ := (show ObjOk X.prog X.w H s.heap tp (.tup cs) from I.hok tp _ hT)
  have e3 := ClsV.all k rv
  subst e3
  obtain ⟨oc, odd, dt, sl⟩ := o
  simp only at h2 h3
  subst h2 h3
  exact PySem.W.kia_tup (PySem.W.kitx_exc hcl C.xf.ga C.xf.gg C.xf.exC C.ha C.hn C.ht C.hm) I.kIn J h1 e (fun z => nomatch z) fun tk => ⟨.bl b, H, I.kept (t' := tk) fun _ _ z => z, rfl, q⟩
end Px

/-! PxOwnEq: o == v, o != v by o's own __eq__, v of any kind; repr(o) by o's own __repr__ -/
namespace Px
open PySem PySem.Spec PyProof.Rows L2 ClX
section
variable {prog : Program} {w : World} {A : Around} {E : Value → Shared → Prop} {s : Shared} {K : PySem.W.Frag} {x C f : Addr} {ox : Obj} {od : Option Obj} {b t : Value}
/-- the right one's class is the left one's, or none under it -/
def RightLast (K : PySem.W.Frag) (C : Addr) (t : Value) : Prop := t = .ref C ∨ PySem.W.kitOne K t (.ref C) = some false
theorem RightLast.sub {h : Heap} {M : Model} (X : K.In h) (r : RightLast K C t) : t = .ref C ∨ ((Value.ref C != t) = true ∧ PySem.W.Looks M h (isSubtype t (.ref C)) false) := by
  rcases r with r | r
  · exact .inl r
  · refine .inr ?_
    unfold PySem.W.kitOne at r
    by_cases q : (t == Value.ref C) = true
    · rw [if_pos q] at r
      cases r
    · rw [if_neg q] at r
      refine ⟨?_, (PySem.W.kit_cls X r).2.2⟩
      by_cases z : Value.ref C = t
      · rw [← z] at q
        exact absurd (by simp) q
      · simpa using z
theorem rc_eqOwn {Q : Value → Shared → Prop} (hu : A.units < cLine) (X : K.In s.heap) (I : PySem.W.InstAt s.heap x ox C od) (hb : PySem.W.Looks (model prog w) s.heap (typeOf b) t) (ht : RightLast K C t)
    (hs : PySem.W.findIn K (.ref C) "__eq__" = some (some (.ref f))) (hf : PySem.W.isFn K (.ref f) = true)
    (h : wpAny (model prog w) A (call (.ref f) [.ref x, b]) (fun v s' => ∃ r, v = .bool r ∧ Q (.bool r) s') E s) : wpAny (model prog w) A (richCompare .Eq (.ref x) b) Q E s := by
  have one : wpAny (model prog w) A (tryCompare (.ref x) "__eq__" b) (fun r s' => ∃ v, r = some v ∧ Q v s') E s := by
    unfold tryCompare
    refine wpAny_bind (PySem.W.ifBound_K X I hs hf (wpAny_mono h (fun v s' hv => ?_) fun _ _ e => e))
    obtain ⟨r, rfl, hq⟩ := hv
    exact wpAny_pure ⟨_, rfl, hq⟩
  unfold richCompare
  simp only [oneThing_ref]
  refine wpAny_holding (wpAny_bind (wpAny_cRoomFor hu ?_))
  refine wpAny_bind (I.type.here (wpAny_bind (hb.here ?_)))
  rw [cmpInfo_Eq]
  rcases ht.sub (M := model prog w) X with rfl | ⟨q, hsub⟩
  · rw [show (Value.ref C != Value.ref C) = false from by simp]
    simp only [Bool.false_eq_true, if_false]
    refine wpAny_bind (wpAny_pure ?_)
    simp only [Bool.false_eq_true, if_false]
    refine wpAny_bind (wpAny_mono one (fun r s' z => ?_) fun _ _ e => e)
    obtain ⟨v, rfl, hq⟩ := z
    exact wpAny_pure hq
  · rw [q]
    simp only [if_true]
    refine wpAny_bind (hsub.here ?_)
    simp only [Bool.false_eq_true, if_false]
    refine wpAny_bind (wpAny_mono one (fun r s' z => ?_) fun _ _ e => e)
    obtain ⟨v, rfl, hq⟩ := z
    exact wpAny_pure hq
theorem rc_neOwnA {Q : Value → Shared → Prop} (hu : A.units + 1 < cLine) (X : K.In s.heap) (I : PySem.W.InstAt s.heap x ox C od) (hb : PySem.W.Looks (model prog w) s.heap (typeOf b) t) (ht : RightLast K C t) (N : NeC K C)
    (hs : PySem.W.findIn K (.ref C) "__eq__" = some (some (.ref f))) (hf : PySem.W.isFn K (.ref f) = true)
    (h : wpAny (model prog w) A.in1 (call (.ref f) [.ref x, b]) (fun v s' => ∃ r, v = .bool r ∧ Q (.bool (!r)) s') E s) : wpAny (model prog w) A (richCompare .NotEq (.ref x) b) Q E s := by
  have sub : PySem.W.Looks (model prog w) s.heap (isInstance (.ref x) (.type "object")) true := I.type.andThen (PySem.W.looks_mroIn X N.ob)
  have one : wpAny (model prog w) A (tryCompare (.ref x) "__ne__" b) (fun r s' => ∃ v, r = some v ∧ Q v s') E s := by
    unfold tryCompare
    refine wpAny_bind (ifBound_B X I N.ne PySem.F.cmp_object.ne (wpAny_call (codeAny_call_builtin PySem.F.cmp_object.ne.plain PySem.F.cmpEntry_ne
      (PySem.W.check_slot PySem.F.cmpKind_ne PySem.F.cmpSplit_ne sub (PySem.F.cmpArgs_ne _ _) (objNe_own (A := A.in1) X I hs hf hu (wpAny_mono h (fun v s' hv => ?_) fun _ _ e => e))))))
    obtain ⟨r, rfl, hq⟩ := hv
    exact ⟨r, rfl, wpAny_pure ⟨_, rfl, hq⟩⟩
  unfold richCompare
  simp only [oneThing_ref]
  refine wpAny_holding (wpAny_bind (wpAny_cRoomFor (Nat.lt_of_succ_lt hu) ?_))
  refine wpAny_bind (I.type.here (wpAny_bind (hb.here ?_)))
  rw [cmpInfo_NotEq]
  rcases ht.sub (M := model prog w) X with rfl | ⟨q, hsub⟩
  · rw [show (Value.ref C != Value.ref C) = false from by simp]
    simp only [Bool.false_eq_true, if_false]
    refine wpAny_bind (wpAny_pure ?_)
    simp only [Bool.false_eq_true, if_false]
    refine wpAny_bind (wpAny_mono one (fun r s' z => ?_) fun _ _ e => e)
    obtain ⟨v, rfl, hq⟩ := z
    exact wpAny_pure hq
  · rw [q]
    simp only [if_true]
    refine wpAny_bind (hsub.here ?_)
    simp only [Bool.false_eq_true, if_false]
    refine wpAny_bind (wpAny_mono one (fun r s' z => ?_) fun _ _ e => e)
    obtain ⟨v, rfl, hq⟩ := z
    exact wpAny_pure hq
end
/-- the right one: of the class at C, or of a class that is not under it -/
def RightV (K : PySem.W.Frag) (C : Addr) (H : Hp) (y : V) : Prop := (∃ b dy gs, y = .ref b ∧ H b = some (.ins C dy gs)) ∨ ∃ t, TyX K H y t ∧ PySem.W.kitOne K t (.ref C) = some false
theorem RightV.looks {X : Cx} {pins : List (Addr × Obj)} {σ : L2.St} {H : Hp} {s : Shared} {C : Addr} {y : V} {u : Value} (I : Inv X pins σ H s) (ry : RelV y u) (r : RightV X.K C H y) : ∃ t, RightLast X.K C t ∧ PySem.W.Looks (model X.prog X.w) s.heap (typeOf u) t := by
  rcases r with ⟨b, dy, gs, rfl, hb⟩ | ⟨t, ty, k⟩
  · cases ry
    obtain ⟨mB, J, _⟩ := ins_get I.hok hb
    obtain ⟨od, J, _⟩ := J.look
    exact ⟨_, .inl rfl, J.type⟩
  · obtain ⟨P, Z, p, _⟩ := kit_of I ry ty
    exact ⟨t, .inr k, Z.ty _ _ I.kIn p⟩
def rEqOwnA (K : PySem.W.Frag) (C : Addr) (sp : Sp) (E : XK) : R2 := fun x y H Q => ∃ a dx fs, x = .ref a ∧ H a = some (.ins C dx fs) ∧ RightV K C H y ∧ sp [.ref a, y] H (fun v H' => ∃ k, v = .bl k ∧ Q (.bl k) H') E
def rNeOwnA (K : PySem.W.Frag) (C : Addr) (sp : Sp) (E : XK) : R2 := fun x y H Q => ∃ a dx fs, x = .ref a ∧ H a = some (.ins C dx fs) ∧ RightV K C H y ∧ sp [.ref a, y] H (fun v H' => ∃ k, v = .bl k ∧ Q (.bl (!k)) H') E
section
variable {X : Cx} {CX : CXT} {k : Nat} {C f : Addr} {fd : FuncData} {ps : List Str} {sp : Sp} {E : XK}
theorem op_eqOwnA (F : FnOk X.prog X.w X.K X.mg X.base CX k f fd ps sp) (hr : Room k X.A) (D : Meth X.K C "__eq__" f) (hb : Binds X.K fd ps []) (hx : Passes CX X E) : OpR X (compareOp .Eq) (rEqOwnA X.K C sp E) := by
  intro pins s σ H x y v u Q I rx ry hq
  obtain ⟨a, dx, fs, rfl, ha, hR, q⟩ := hq
  cases rx
  obtain ⟨mA, J, _⟩ := ins_get I.hok ha
  obtain ⟨od, J, _⟩ := J.look
  obtain ⟨t, hL, hT⟩ := hR.looks I ry
  show wpAny (model X.prog X.w) X.A (richCompare .Eq (.ref a) u) _ _ _
  refine rc_eqOwn hr.units0 I.kIn J hT hL D.at_ D.fn ?_
  have hl := F.len _ _ _ _ q
  have r2 : Vals [V.ref a, y] [Value.ref a, u] := .cons rfl (.cons ry .nil)
  refine wpAny_call (codeAny_mono (F.run X.A X.stack s H ⟨[.ref a, u], []⟩ [.ref a, u] [.ref a, y] _ E hr I.env0 (by
    have := hb s [.ref a, u] I.kIn (by simpa using hl)
    simpa using this) r2 q) fun r s' hq => ?_)
  cases r with
  | error e => exact hx pins σ H s e s' I hq
  | ok fl =>
    cases fl with
    | ret w =>
      obtain ⟨z, H', I', rz, n, ez, q'⟩ := I.after hq
      subst ez
      cases rz
      exact ⟨n, rfl, .bl n, H', I', rfl, q'⟩
    | next => exact False.elim hq
    | brk => exact False.elim hq
    | cont => exact False.elim hq
theorem op_neOwnA (F : FnOk X.prog X.w X.K X.mg X.base CX k f fd ps sp) (hr : Room (k + 1) X.A) (N : NeC X.K C) (D : Meth X.K C "__eq__" f) (hb : Binds X.K fd ps []) (hx : Passes CX X E) : OpR X (compareOp .NotEq) (rNeOwnA X.K C sp E) := by
  intro pins s σ H x y v u Q I rx ry hq
  obtain ⟨a, dx, fs, rfl, ha, hR, q⟩ := hq
  cases rx
  obtain ⟨mA, J, _⟩ := ins_get I.hok ha
  obtain ⟨od, J, _⟩ := J.look
  obtain ⟨t, hL, hT⟩ := hR.looks I ry
  show wpAny (model X.prog X.w) X.A (richCompare .NotEq (.ref a) u) _ _ _
  refine rc_neOwnA (hr.in1).units0 I.kIn J hT hL N D.at_ D.fn ?_
  have hl := F.len _ _ _ _ q
  have r2 : Vals [V.ref a, y] [Value.ref a, u] := .cons rfl (.cons ry .nil)
  refine wpAny_call (codeAny_mono (F.run X.A.in1 X.stack s H ⟨[.ref a, u], []⟩ [.ref a, u] [.ref a, y] _ E hr.in1 I.env0.in1 (by
    have := hb s [.ref a, u] I.kIn (by simpa using hl)
    simpa using this) r2 q) fun r s' hq => ?_)
  cases r with
  | error e => exact hx pins σ H s e s' I hq
  | ok fl =>
    cases fl with
    | ret w =>
      obtain ⟨z, H', I', rz, n, ez, q'⟩ := I.after hq
      subst ez
      cases rz
      exact ⟨n, rfl, .bl (!n), H', I', rfl, q'⟩
    | next => exact False.elim hq
    | brk => exact False.elim hq
    | cont => exact False.elim hq
end
end Px

/-! PxOwnRepr: repr(o) by o's own __repr__ -/
namespace Px
open PySem PySem.Spec PyProof.Rows L2
section
variable {prog : Program} {w : World} {A : Around} {E : Value → Shared → Prop} {s : Shared} {K : PySem.W.Frag} {x C f : Addr} {ox : Obj} {od : Option Obj}
theorem repr_ownK {Q : Value → Shared → Prop} (X : K.In s.heap) (I : PySem.W.InstAt s.heap x ox C od) (hu : A.in1.units < cLine) (hs : PySem.W.findIn K (.ref C) "__repr__" = some (some (.ref f))) (hf : PySem.W.isFn K (.ref f) = true)
    (h : wpAny (model prog w) A.in1 (call (.ref f) [.ref x]) (fun r s' => ∃ m tk, r = .str m tk ∧ Q (.str m tk) s') E s) : wpAny (model prog w) A (call (.builtin "repr") [.ref x]) Q E s := by
  refine Calls.call_function_entry F.kind_repr F.plain_repr F.entry_repr (F.args_repr1 _) ?_
  unfold Builtin.«repr»
  refine wpAny_bind (m := oneArg "repr" _) (wpAny_pure ?_)
  refine wpAny_bind (wpAny_cRoomFor hu ?_)
  unfold specialOf
  refine wpAny_bind (wpAny_bind (I.type.here ((PySem.W.looks_findIn X hs).here ?_)))
  show wpAny _ _ (if (some (Value.ref f)).isNone = true then _ else _) _ _ _
  rw [if_neg (by simp)]
  refine wpAny_bind (m := callSpecialIfBound? (.ref x) (Str.ofString "__repr__") _) (PySem.W.ifBound_K X I hs hf (wpAny_mono h (fun r s' hr => ?_) fun _ _ y => y))
  obtain ⟨m, tk, rfl, hq⟩ := hr
  refine wpAny_bind (wpAny_isInstance (typeIs_str _ _ _) isSubtype_str_str ?_)
  first
    | exact wpAny_pure ⟨_, rfl, hq⟩
    | (rw [if_pos rfl]; exact wpAny_pure ⟨_, rfl, hq⟩)
    | (simp only [if_true]; exact wpAny_pure ⟨_, rfl, hq⟩)
end
def rReprOwn (C : Addr) (sp : Sp) (E : XK) : List V → Hp → VK → Prop := fun xs H Q => ∃ a dx fs, xs = [.ref a] ∧ H a = some (.ins C dx fs) ∧ sp [.ref a] H (fun v H' => ∃ z : Str, v = .str z ∧ Q (.str z) H') E
section
variable {X : Cx} {CX : CXT} {k : Nat} {C f : Addr} {fd : FuncData} {ps : List Str} {sp : Sp} {E : XK}
theorem call_reprOwn (F : FnOk X.prog X.w X.K X.mg X.base CX k f fd ps sp) (hr : Room (k + 1) X.A) (D : Meth X.K C "__repr__" f) (hb : Binds X.K fd ps []) (hx : Passes CX X E) : CallR X (.builtin "repr") (rReprOwn C sp E) := by
  intro pins s σ H xs us Q I r h
  obtain ⟨a, dx, fs, rfl, ha, q⟩ := h
  obtain ⟨u, rfl, ru⟩ := vals1 r
  obtain rfl : u = Value.ref a := ru
  obtain ⟨mA, J, _⟩ := ins_get I.hok ha
  obtain ⟨od, J, _⟩ := J.look
  refine repr_ownK I.kIn J hr.in1.units0 D.at_ D.fn ?_
  have hl := F.len _ _ _ _ q
  have r2 : Vals [V.ref a] [Value.ref a] := .cons rfl .nil
  refine wpAny_call (codeAny_mono (F.run X.A.in1 X.stack s H ⟨[.ref a], []⟩ [.ref a] [.ref a] _ E hr.in1 I.env0.in1 (by
    have := hb s [.ref a] I.kIn (by simpa using hl)
    simpa using this) r2 q) fun r s' hq => ?_)
  cases r with
  | error e => exact hx pins σ H s e s' I hq
  | ok fl =>
    cases fl with
    | ret w =>
      obtain ⟨z, H', I', rz, n, ez, q'⟩ := I.after hq
      subst ez
      obtain ⟨t, rfl⟩ := rz
      exact ⟨n, t, rfl, .str n, H', I', ⟨_, rfl⟩, q'⟩
    | next => exact False.elim hq
    | brk => exact False.elim hq
    | cont => exact False.elim hq
theorem op_notInOwn (F : FnOk X.prog X.w X.K X.mg X.base CX k f fd ps sp) (hr : Room k X.A) (D : Meth X.K C "__contains__" f) (hb : Binds X.K fd ps []) (hx : Passes CX X E) : OpR X (compareOp .NotIn) (rInOwn C sp E fun b => !b) := by
  intro pins s σ H x y v u Q I rx ry h
  obtain ⟨a, dx, fs, rfl, ha, q⟩ := h
  cases (show u = Value.ref a from ry)
  show wpAny _ _ (contains (.ref a) v >>= fun b => pure (Value.bool (!b))) _ _ _
  refine wpAny_bind (wpAny_mono (contains_ok F hr D hb hx I rx ha (Q := fun r H' => Q (.bl (!r)) H') q) (fun r s' z => ?_) fun _ _ e => e)
  obtain ⟨H', I', q'⟩ := z
  exact wpAny_pure ⟨.bl (!r), H', I', rfl, q'⟩
end
end Px

/-! PxInsNo: values of the kinds that a law names are no instances of an own class -/
namespace Px
open PySem PySem.Spec PyProof.Rows L2
def NoC (K : PySem.W.Frag) (C : Addr) : Prop := ∀ t ∈ ["int", "bool", "str", "NoneType", "list", "tuple"], PySem.W.kitOne K (.type t) (.ref C) = some false
def fNo (C : Str) : Fact := fun K => ["int", "bool", "str", "NoneType", "list", "tuple"].all fun t => decide (PySem.W.kitOne K (.type t) (.ref (He.ga K C)) = some false)
theorem fNo_ok {C : Str} {K : PySem.W.Frag} (h : fNo C K = true) : NoC K (He.ga K C) := fun t ht => of_decide_eq_true (List.all_eq_true.mp h t ht)
theorem Kd.mem {H : Hp} {v : V} {t : String} (k : Kd H v t) : t ∈ ["int", "bool", "str", "NoneType", "list", "tuple"] := by
  cases k <;> simp
theorem RightV.kd {K : PySem.W.Frag} {C : Addr} {H : Hp} {v : V} {t : String} (n : NoC K C) (k : Kd H v t) : RightV K C H v := .inr ⟨_, .base k.ty, n t k.mem⟩
theorem r_isNo {K : PySem.W.Frag} {C : Addr} {H : Hp} {Q : VK} {v : V} {t : String} (n : NoC K C) (k : Kd H v t) (h : Q (.bl false) H) : rIsi K [v, .ref C] H Q := r_isi (.own C) (.base k.ty) (n t k.mem) h
end Px

namespace Px
open PySem PySem.Spec PyProof.Rows L2
/-! ### text * number, longer texts -/
def rMulT : R2 := fun x y H Q => ∃ (a : Str) (n : Nat), x = .str a ∧ y = .int n ∧ a.length ≤ 1000 ∧ n ≤ 100 ∧ Q (.str (strRep a n)) H
theorem op_mulT {X : Cx} : OpR X (binaryOp .Mult) rMulT := by
  intro pins s σ H x y v u Q I rx ry h
  obtain ⟨a, n, rfl, rfl, ha, hn, q⟩ := h
  obtain ⟨t, rfl⟩ := rx
  obtain ⟨t2, rfl⟩ := ry
  have dv : 1000 ≤ (2 ^ 63 - 1 : Int) / (1000 : Int) := by decide
  refine PySem.P.mul_str (by
    rw [decide_eq_false (by omega), decide_eq_false (by omega)]; rfl) (fun h1 _ z => ?_) (fun h1 _ => ?_) ?_
  · have h3 : (1000 : Int) ≤ (2 ^ 63 - 1) / (n : Int) := (Int.le_ediv_iff_mul_le (by omega)).mpr (by omega)
    omega
  · unfold Builtin.Str.tooLong
    rw [Int.toNat_natCast]
    refine decide_eq_false ?_
    have : a.length * n ≤ 1000 * 100 := Nat.mul_le_mul ha hn
    have := sizeLine_eq
    omega
  by_cases h1 : (n : Int) < 1
  · rw [if_pos h1]
    have e : n = 0 := by omega
    subst e
    exact ⟨by decide, ⟨.str (strRep a 0), H, I.tok _, ⟨_, rfl⟩, q⟩⟩
  · rw [if_neg h1]
    by_cases h2 : ((n : Int) == 1 || a.length == 0) = true
    · rw [if_pos h2]
      have e : strRep a n = a := by
        unfold strRep
        rcases Bool.or_eq_true_iff.mp h2 with z | z
        · have z := beq_iff_eq.mp z
          have : n = 1 := by omega
          subst this
          simp
        · have z : a.cps.size = 0 := beq_iff_eq.mp z
          have : a.cps = #[] := Array.eq_empty_of_size_eq_zero z
          have e2 : a = ⟨#[]⟩ := by
            show a = _
            rw [← this]
          rw [e2]
          simp
      rw [e] at q
      exact ⟨.str a, H, I, ⟨_, rfl⟩, q⟩
    · rw [if_neg h2]
      have e : (⟨(List.replicate (Int.toNat n) a.cps).foldl (· ++ ·) #[]⟩ : Str) = strRep a n := by
        rw [rep_fold, Int.toNat_natCast]
        unfold strRep
        simp
      rw [e]
      refine ⟨?_, ⟨.str (strRep a n), H, I.tok _, ⟨_, rfl⟩, q⟩⟩
      unfold strRep
      show (List.replicate n a.cps.toList).flatten.toArray.size ≤ sizeLine
      have : a.cps.toList.length ≤ 1000 := by rw [Array.length_toList]; exact ha
      simp only [List.size_toArray, List.length_flatten, List.map_replicate, List.sum_replicate_nat]
      have h5 : n * a.cps.toList.length ≤ 100 * 1000 := Nat.mul_le_mul hn this
      rw [sizeLine_eq]
      omega
end Px

/-! PxLam: a lambda without parameters kept as a value, and handed to a def that calls it -/
namespace Px
open PySem PySem.Spec PyProof.Rows L2 LamX NdefX
/-- a made lambda: its words, the cells that it captured, its code object -/
structure LF where
  qual : Str
  params : Arguments
  body : Expr
  scope : Scope
  cl : List (Str × Addr)
  c : Addr
abbrev LF.obj (F : LF) (pm ctv : Value) : Obj := PySem.W.kla_obj "<lambda>" F.qual F.params F.body F.scope F.cl pm F.c ctv
/-- the object at f is the lambda F; G: what is known of it -/
def LamO (f : Addr) (F : LF) (G : Prop) : HO := .ext fun h => (∃ pm ctv : Value, h.get? f = some (F.obj pm ctv)) ∧ G
theorem lamO_ne {f : Addr} {F : LF} {G : Prop} (ps : Array Value) : LamO f F G ≠ .tbl ps := fun z => by
  unfold LamO at z
  cases z
theorem lamO_at {P : Program} {w : World} {H : Hp} {h : Heap} {f : Addr} {F : LF} {G : Prop} (hok : HOk P w H h) (e : H f = some (LamO f F G)) : (∃ pm ctv : Value, h.get? f = some (F.obj pm ctv)) ∧ G := by
  obtain ⟨z, _, _⟩ := hok f _ e
  exact z
section
variable {X : Cx} {pins : List (Addr × Obj)} {σ : L2.St} {H HZ : Hp} {s s1 : Shared}
/-- a lambda just made is known from now on -/
theorem inv_lam {F : LF} {G : Prop} {o : Obj} {t' : Nat} {pm ctv : Value} (g : G) (I : Inv X pins σ H s) (ho : o = F.obj pm ctv) :
    Inv X pins σ (upd H s.heap.objs.size (LamO s.heap.objs.size F G)) { s with heap := s.heap.push o, toks := t' } := by
  subst ho
  refine I.laid (a := s.heap.objs.size) (fun b u e => Heap.get?_push_of_some _ e) (Nat.le_refl _) ?_
  have e : (s.heap.push (F.obj pm ctv)).get? s.heap.objs.size = some (F.obj pm ctv) := Heap.get?_push_size _ rfl
  exact ⟨⟨⟨pm, ctv, e⟩, g⟩, ⟨_, e⟩, fun h1 h2 ⟨⟨p, t, z⟩, g⟩ st => ⟨⟨p, t, st _ z⟩, g⟩⟩
abbrev lfOf (X : Cx) (params : Arguments) (body : Expr) (scope : Scope) (c' : Addr) : LF := ⟨X.env.qual ++ "<lambda>", params, body, scope, cloFrom X.env.cells scope.names [], c'⟩
/-- the table with one code object more -/
abbrev more (H : Hp) (P c' : Addr) (q : Str) (pos : Pos) (ps : Array Value) : Hp := upd (upd H P (.tbl (ps ++ #[rawInt pos.line, rawInt pos.col, .ref c']))) c' (CodeO c' q)
theorem more_ext {P c' : Addr} {q : Str} {pos : Pos} {ps : Array Value} (hP : H P = some (.tbl ps)) (nC : H c' = none) : ExtN H (more H P c' q pos ps) := fun b o e n => by
  have n1 : b ≠ c' := ne_of_none e nC
  have n2 : b ≠ P := fun z => by
    rw [z, hP] at e
    exact n ps (Option.some.inj e).symm
  exact ((upd_ne n1).trans (upd_ne n2)).trans e
theorem more_tabs {T : List (Addr × Str)} {P c' : Addr} {q : Str} {pos : Pos} {ps : Array Value} (hT : Tabs T H) (hP : H P = some (.tbl ps)) (ok : TriplesOk ps.toList) (nC : H c' = none) (hu : ∀ p ∈ T, p.1 = P → p.2 = q) : Tabs T (more H P c' q pos ps) := by
  have ext := more_ext (q := q) (pos := pos) hP nC
  intro p hp
  obtain ⟨ps', a1, a2, a3⟩ := hT p hp
  have old : ∀ (p' : Pos) (cv : Value), codeAmong p' ps'.toList = some cv → ∃ c, cv = .ref c ∧ more H P c' q pos ps c = some (CodeO c p.2) := fun p' cv h => by
    obtain ⟨c, e, k⟩ := a3 p' cv h
    exact ⟨c, e, ext _ _ k codeO_ne⟩
  by_cases hb : p.1 = P
  · have e : ps' = ps := by
      rw [hb, hP] at a1
      cases a1
      rfl
    subst e
    refine ⟨_, by rw [hb]; exact (upd_ne (ne_of_none hP nC)).trans upd_same, ?_, fun p' cv h => ?_⟩
    · rw [Array.toList_append]
      exact PySem.TriplesOk_snoc _ _ _ _ ok
    · rw [Array.toList_append] at h
      rcases among_app _ ok h with z | z
      · exact old p' cv z
      · exact ⟨c', z, by rw [hu p hp hb]; exact upd_same⟩
  · exact ⟨ps', ((upd_ne (ne_of_none a1 nC)).trans (upd_ne hb)).trans a1, a2, old⟩
/-- a lambda is made and known from then on: its code object is new, or stands in the table -/
theorem lam_made {G : Prop} (g : G) {T : List (Addr × Str)} {c P : Addr} {params : Arguments} {body : Expr} {scope : Scope} {pos : Pos} {E : Value → Shared → Prop} {Q : Value → Shared → Prop} (I : Inv X pins σ H s) (TB : TabB X.base X.mg c P) (hcode : X.env.code = .ref c)
    (hm : (P, X.env.qual ++ "<lambda>") ∈ T) (hu : ∀ p ∈ T, p.1 = P → p.2 = X.env.qual ++ "<lambda>") (hT : Tabs T H) (hdef : defaultsOf params X.env = ([], [])) (hfree : ∀ y ∈ scope.names, y.2 = .free → ∃ c, X.env.cells.lookup y.1 = some c)
    (h : ∀ (f c' : Addr) (H1 : Hp) (s' : Shared), Inv X pins σ H1 s' → ExtN H H1 → (∀ b, H1 b = none → H b = none) → Tabs T H1 → H f = none → H1 f = some (LamO f (lfOf X params body scope c') G) → H1 c' = some (CodeO c' (X.env.qual ++ "<lambda>")) → Q (.ref f) s') :
    wpAny (model X.prog X.w) X.A (eval (.Lambda params body scope pos) X.env) Q E s := by
  obtain ⟨ps, hP, ok, known⟩ := hT _ hm
  have built : ∀ {H1 : Hp} {s1 : Shared} {c' : Addr} (tk : Nat) (ctv : Value), Inv X pins σ H1 s1 → ExtN H H1 → (∀ b, H1 b = none → H b = none) → Tabs T H1 → H1 c' = some (CodeO c' (X.env.qual ++ "<lambda>")) →
      Q (.ref s1.heap.objs.size) { s1 with heap := s1.heap.push ((lfOf X params body scope c').obj ((X.mg "__name__").getD .none) ctv), toks := tk } := fun {H1 s1 c'} tk ctv I1 ext nn T1 hc' => by
    have nF : H1 s1.heap.objs.size = none := I1.hok.fresh (Nat.le_refl _)
    have keep : ∀ b o, H1 b = some o → upd H1 s1.heap.objs.size (LamO s1.heap.objs.size (lfOf X params body scope c') G) b = some o := fun b o e => (upd_ne (ne_of_none e nF)).trans e
    exact h _ c' _ _ (inv_lam (t' := tk) g I1 rfl) (fun b o e n => keep b o (ext b o e n)) (fun b e => nn b (upd_none e)) (T1.ext keep) (nn _ nF) upd_same (keep _ _ hc')
  have bmP := TB.bm.keeps I.bk
  have atP : s.heap.get? P = some { cls := .none, data := .fields ps } := I.hok P _ hP
  refine PySem.W.kla_eval hdef ?_
  cases hc : codeAmong pos ps.toList with
  | some cv =>
    obtain ⟨c', rfl, hco⟩ := known pos cv hc
    refine PySem.W.kla_makeFunctionHit (closure_ok hfree) I.ok.glob (I.mod.glob.keeps I.bk) hcode (TB.code.keeps I.bk) atP ok hc bmP fun ctv h' tk hx _ => ?_
    exact built (s1 := { s with heap := h', toks := tk }) tk ctv (I.kept hx) (ExtN.refl H) (fun _ e => e) hT hco
  | none =>
    refine PySem.W.kla_makeFunction (closure_ok hfree) I.ok.glob (I.mod.glob.keeps I.bk) hcode (TB.code.keeps I.bk) atP ok hc TB.gP bmP fun c' ctv h' tk hx hge hlt hrec htb => ?_
    obtain ⟨c2, oc, vs, t, e2, hoc, hd, hv⟩ := hrec
    cases e2
    have nC : H c' = none := I.hok.fresh hge
    exact built (s1 := { s with heap := h', toks := tk }) tk ctv (inv_table (t' := tk) I hP (fun b o hb e => hx b o hb e) htb hge ⟨oc, vs, t, hoc, hd, hv⟩) (more_ext hP nC) (fun _ e => upd_none (upd_none e)) (more_tabs hT hP ok nC hu) upd_same
end
/-- a lambda: its words by its code object's place, its body's reading -/
abbrev LamD := (Addr → LF) × (XK → TE)
/-- the reading of lambda: .. as a value -/
def tLamV (T : List (Addr × Str)) (G : LamD → Prop) (d : LamD) : TE := fun σ H Q => Tabs T H ∧ ∀ (f c' : Addr) (H1 : Hp), ExtN H H1 → (∀ b, H1 b = none → H b = none) → Tabs T H1 → H f = none → H1 f = some (LamO f (d.1 c') (G d)) → H1 (d.1 c').c = some (CodeO (d.1 c').c (d.1 c').qual) → Q (.ref f) H1
/-- what is asked of a lambda -/
structure LamOk (X : Cx) (k : Nat) (d : LamD) : Prop where
  ex : ∃ (params : Arguments) (body : Expr) (scope : Scope), d.1 = lfOf X params body scope ∧ LamS X.env.scope scope ∧
    (∀ (pm cv ctv : Value), bindArgs (PySem.W.kla_fn "<lambda>" (X.env.qual ++ "<lambda>") params body scope (cloFrom X.env.cells scope.names []) pm cv ctv) ⟨[], []⟩ = pure []) ∧
    ∀ (A : Around) (outer : List Env) (s : Shared) (H : Hp) (E : XK) (f c' : Addr), Room k (A.deeper (lamEnv X scope s.heap.objs.size f c')) → PE (lamCx X A outer s H E scope f c') body (d.2 E)
section
variable {X : Cx} {pins : List (Addr × Obj)} {σ : L2.St} {H HZ : Hp} {s s1 : Shared}
theorem pe_lamV {k : Nat} {t : XK → TE} {T : List (Addr × Str)} {c P : Addr} {params : Arguments} {body : Expr} {scope : Scope} {pos : Pos} (TB : TabB X.base X.mg c P) (hcode : X.env.code = .ref c)
    (hm : (P, X.env.qual ++ "<lambda>") ∈ T) (hu : ∀ p ∈ T, p.1 = P → p.2 = X.env.qual ++ "<lambda>") (L : LamS X.env.scope scope) (hdef : defaultsOf params X.env = ([], []))
    (hbind : ∀ (pm cv ctv : Value), bindArgs (PySem.W.kla_fn "<lambda>" (X.env.qual ++ "<lambda>") params body scope (cloFrom X.env.cells scope.names []) pm cv ctv) ⟨[], []⟩ = pure [])
    (hbody : ∀ (A : Around) (outer : List Env) (s : Shared) (H : Hp) (E : XK) (f c' : Addr), Room k (A.deeper (lamEnv X scope s.heap.objs.size f c')) → PE (lamCx X A outer s H E scope f c') body (t E)) :
    PE X (.Lambda params body scope pos) (tLamV T (LamOk X k) (lfOf X params body scope, t)) := by
  refine ⟨fun pins s σ H Q I h => ?_⟩
  obtain ⟨hT, h⟩ := h
  exact lam_made (⟨⟨params, body, scope, rfl, L, hbind, hbody⟩⟩ : LamOk X k (lfOf X params body scope, t)) I TB hcode hm hu hT hdef (L.has I.ok) fun f c' H1 s' I1 eN nn T1 f0 f1 c1 => ⟨.ref f, H1, I1, rfl, h f c' H1 eN nn T1 f0 f1 c1⟩
/-- a(), a the parameter that holds the lambda F at f -/
def tAct (i : Nat) (f : Addr) (F : LF) (G : Prop) (W : WX) (tl : XK → Hp → VK → Prop) : TE := fun σZ HZ Q => σZ[i]? = some (some (.ref f)) ∧ HZ f = some (LamO f F G) ∧ HZ F.c = some (CodeO F.c F.qual) ∧ tl (WE W σZ) HZ Q
/-- the lambda's run, wherever it is called: its body by what its maker's names held at s, which the run began behind -/
theorem lam_runs {G : Prop} {f c' : Addr} {params : Arguments} {body : Expr} {scope : Scope} {k : Nat} {t : TE} {E : XK} {Q : VK} {A : Around} {outer : List Env} (I : Inv X pins σ H s) (L : LamS X.env.scope scope) (e0 : Env0 X.prog X.w X.K X.mg X.base A outer s1 HZ) (hr : Room (k + 1) A)
    (un : Un (frs X.stack) [] H HZ s.heap s1.heap) (lim : s1.heap.NoLimit) (hl : HZ f = some (LamO f (lfOf X params body scope c') G)) (hc : HZ c' = some (CodeO c' (X.env.qual ++ "<lambda>")))
    (hbind : ∀ (pm cv ctv : Value), bindArgs (PySem.W.kla_fn "<lambda>" (X.env.qual ++ "<lambda>") params body scope (cloFrom X.env.cells scope.names []) pm cv ctv) ⟨[], []⟩ = pure [])
    (hbody : ∀ (A : Around) (outer : List Env) (s : Shared) (H : Hp), Room k (A.deeper (lamEnv X scope s.heap.objs.size f c')) → PE (lamCx X A outer s H E scope f c') body t) (ht : t σ HZ Q) :
    codeAny (model X.prog X.w) A (.call (.ref f) ⟨[], []⟩) (CR (L2.CX X.prog X.w) outer X.prog X.w HZ s1 Q E) s1 := by
  obtain ⟨⟨pm, ctv, obj⟩, _⟩ := lamO_at e0.hok hl
  refine PySem.W.kla_callFunE hr.depth obj rfl L.co L.gen rfl (codeO_at e0.hok hc) ?_
  rw [hbind]
  refine wpAny_pure (wpAny_newFunctionEnv (fun y hy => (L.own y hy).2) (fun _ hy => nomatch hy) (fun h₁ hns hsb => ⟨lim.fresh _ hsb, ?_⟩) L.kind)
  have keep : ∀ b o, s1.heap.get? b = some o → h₁.get? b = some o := fun b o e => hsb.extBut b o (Nat.ne_of_lt (Heap.lt_size e)) (Heap.get?_push_of_some _ e)
  have J := lam_start2 (E := E) (f := f) (c' := c') (tk := s1.toks + ([] : List (Str × Value)).length) I L e0 hr.hd un hns keep
  refine PySem.W.kla_codeExpr (wpAny_mono ((hbody A outer s1 HZ (hr.deeper _)).run [] _ _ HZ Q J ht) (fun v s' ⟨x, H', K, r, q⟩ => ?_) fun _ _ z => z)
  exact ⟨x, H', K.os, K.bare, K.base, K.hok, r, q⟩
theorem pe_actV {G : Prop} {CXg : CXT} {Eg : XK} {Ng : List Str} {qg : Str} {sg : Scope} {g f c' : Addr} {cdg : Value} {params : Arguments} {body : Expr} {scope : Scope} {k i : Nat} {a : Str} {pn : List (Addr × Obj)} {xe : Value → Shared → Prop} {W : WX} {t : XK → TE} {p1 p2 : Pos}
    (I : Inv X pins σ H s) (L : LamS X.env.scope scope)
    (hbind : ∀ (pm cv ctv : Value), bindArgs (PySem.W.kla_fn "<lambda>" (X.env.qual ++ "<lambda>") params body scope (cloFrom X.env.cells scope.names []) pm cv ctv) ⟨[], []⟩ = pure [])
    (tk : Takes ((cxOf CXg X.prog X.w X.K X.mg X.base Ng qg sg g cdg X.A X.stack s H Eg).tr pn xe) W) (hr : Room (k + 1) (X.A.deeper (envOfC qg sg s.heap.objs.size g cdg)))
    (hbody : ∀ (A : Around) (outer : List Env) (s : Shared) (H : Hp) (E : XK), Room k (A.deeper (lamEnv X scope s.heap.objs.size f c')) → PE (lamCx X A outer s H E scope f c') body (t E))
    (hN : Ng[i]? = some a) (hv : Vis sg a) (hd : (a == ("__debug__" : Str)) = false := by decide) (hcd : (a == ("__classdict__" : Str)) = false := by decide) :
    PE ((cxOf CXg X.prog X.w X.K X.mg X.base Ng qg sg g cdg X.A X.stack s H Eg).tr pn xe) (.Call (.Name a p1) [] [] p2) (tAct i f (lfOf X params body scope c') G W fun E H' Q' => t E σ H' Q') := by
  refine ⟨fun pinsZ sZ σZ HZ Q IZ ⟨hs, hl, hc, ht⟩ => ?_⟩
  have look := (pe_var (pos := p1) (i := i) hN hv hd hcd).run pinsZ sZ σZ HZ (fun v H1 => v = .ref f ∧ H1 = HZ) IZ ⟨.ref f, hs, rfl, rfl⟩
  refine wpAny_Call_Name_kw (thn look fun u s1 ⟨v, H1, I1, r1, ev, eH⟩ => ?_)
  subst ev eH
  cases r1
  obtain ⟨⟨pm, ctv, obj⟩, _⟩ := lamO_at I1.hok hl
  have run : codeAny (model X.prog X.w) (X.A.deeper (envOfC qg sg s.heap.objs.size g cdg)) (.call (.ref f) ⟨[], []⟩) (CR (L2.CX X.prog X.w) (envOfC qg sg s.heap.objs.size g cdg :: X.stack) X.prog X.w H1 s1 Q (WE W σZ)) s1 :=
    lam_runs (X := X) (t := t (WE W σZ)) I L I1.env0 hr I1.base I1.nolimit hl hc hbind (fun A outer s H r => hbody A outer s H (WE W σZ) r) ht
  refine PySem.W.callWith_F0 ⟨_, _, _, _, obj⟩ (wpAny_call (codeAny_mono run fun r s' hq => ?_))
  match r, hq with
  | .error e, hq => exact passAt tk σZ pinsZ H1 s1 e s' I1 hq
  | .ok (.ret u), hq => exact I1.after hq
  | .ok .next, hq => exact hq.elim
  | .ok .brk, hq => exact hq.elim
  | .ok .cont, hq => exact hq.elim
end
end Px

/-! PxLamC: [g(x) for x in xs], xs lambdas that were kept: the element is told with what the def's own names hold -/
namespace Px
open PySem PySem.Spec PyProof.Rows L2 LamX NdefX
abbrev LS := L2.St
/-- the block's context -/
abbrev Bk (X : Cx) (s : Shared) (H : Hp) (scope : Scope) (fp : List Addr) : Cx := X.blk s H scope (compEnvC scope (cellsFrom (s.heap.objs.size + 1) scope.names (cloFrom X.env.cells scope.names [])) s.heap.objs.size X.env) fp
/-- an element within a block, the def's own state at hand -/
def PEO (X B : Cx) (us : List Nat) (e : Expr) (te : TE) : Prop := ∀ (pins : List (Addr × Obj)) (s : Shared) (σ : LS) (H : Hp) (Q : VK) (pinsO : List (Addr × Obj)) (σO : LS), Inv B pins σ H s → (∀ (pins' : List (Addr × Obj)) (σ' : LS) (H' : Hp) (s' : Shared), Inv B pins' σ' H' s' → Inv X pinsO σO H' s') → wipe σ us = wipe σO us → te σ H Q →
  wpAny (model X.prog X.w) X.A (eval e B.env) (EP B pins σ Q) B.xe s
section
variable {X : Cx} {pins : List (Addr × Obj)} {s3 : Shared} {σ : LS} {H3 : Hp} {scope : Scope} {fp : List Addr} {us : List Nat}
/-- the marks of the iterator: nobody's but the block's -/
def Marks (X : Cx) (pins : List (Addr × Obj)) (H : Hp) (s : Shared) (fp : List Addr) : Prop := ∀ b ∈ fp, FpOk X pins H b ∧ b < s.heap.objs.size
/-- what the def knew is known still, whatever the block did -/
theorem Marks.out (M : Marks X pins H3 s3 fp) (I3 : Inv X pins σ H3 s3) {pins' : List (Addr × Obj)} {σ' : LS} {H' : Hp} {s' : Shared} (J : Inv (Bk X s3 H3 scope fp) pins' σ' H' s') : Inv X pins σ H' s' :=
  I3.call' (ch := fp) J.os J.base J.hok J.bare fun b hb =>
    have f := (M b hb).1
    ⟨f.2.2.2.1, f.2.1, f.2.2.2.2.1, f.2.2.2.2.2⟩
theorem marks_in {σ' : LS} {H' : Hp} {s' : Shared} (J : Inv (Bk X s3 H3 scope fp) [] σ' H' s') (hn : ∀ b ∈ fp, H' b = none) : ∀ b ∈ fp, FpOk (Bk X s3 H3 scope fp) [] H' b := fun b hb =>
  have e := J.ok.exf b hb
  ⟨hn b hb, e.1, J.ok.exfs b hb, Or.inl hb, fun x c z => e.2 x c z, fun _ hp => nomatch (show _ ∈ ([] : List (Addr × Obj)) from hp)⟩
/-- where a turn of the block begins -/
def AtTurn (X : Cx) (s3 : Shared) (H3 : Hp) (scope : Scope) (fp : List Addr) (us : List Nat) (σ : LS) (tn : Nat → Heap → Prop) (W : Nat → Nat → Hp → Prop) (m : Nat) (s' : Shared) : Prop :=
  ∃ i H', Inv (Bk X s3 H3 scope fp) [] (wipe σ us) H' s' ∧ tn i s'.heap ∧ (∀ b ∈ fp, H' b = none) ∧ W i m H'
/-- the turn's end: the next one begins -/
theorem at_next {tg : Expr} {J : It} {it : Addr} {tn : Nat → Heap → Prop} (T : Turn X.prog X.w X.K tg J fp it tn) {W : Nat → Nat → Hp → Prop} {i n m : Nat} {s7 s' : Shared} {σ8 : LS} {H' : Hp} (st7 : tn (i + 1) s7.heap)
    (K : Inv (Bk X s3 H3 scope fp) ([] ++ pinsAt fp s7.heap) σ8 H' s') (hw : wipe σ8 us = wipe σ us) (lt : m < n) (w : W (i + 1) m H') : ∃ m', m' < n ∧ AtTurn X s3 H3 scope fp us σ tn W m' s' := by
  have held : ∀ b ∈ fp, ∀ o, s7.heap.get? b = some o → s'.heap.get? b = some o ∧ H' b = none := fun b hb o e => by
    have z := K.pin (b, o) (List.mem_append_right _ (List.mem_append_right _ (mem_pinsAt hb e)))
    exact ⟨z.1, z.2.1⟩
  have K0 := K.unpinned (pins := [])
  have K1 : Inv (Bk X s3 H3 scope fp) [] (wipe σ us) H' s' := K0.weak (by rw [← hw, wipe_length]) fun j v e => by
    rw [← hw] at e
    exact (wipe_some e).1
  refine ⟨m, lt, i + 1, H', K1, T.keep _ _ _ st7 fun b hb o e => (held b hb o e).1, fun b hb => ?_, w⟩
  obtain ⟨o, e, _⟩ := T.obj _ _ st7 b hb
  exact (held b hb o e).2
/-- a block without tests, its element told with the def's state -/
theorem lc_told {s : Shared} {H : Hp} {Q : VK} {elt tg iter : Expr} {own : List (Str × Nat)} {pos pos' : Pos} {wi : TI} {g : TG} {te : TE} {use : Option (Value → Sem Unit)} {Qf : Value → Shared → Prop} (hc : X.calm = true) (hN : X.N.Nodup) (I : Inv X pins σ H s)
    (hi : PI X tg iter wi) (ok : BlkOk X.N X.env.scope scope own) (hg : ∀ (s : Shared) (H : Hp) (fp : List Addr), PG (Bk X s H scope fp) tg g) (he : ∀ (s : Shared) (H : Hp) (fp : List Addr), PEO X (Bk X s H scope fp) (own.map (·.2)) elt te)
    (hs : ∀ x, foldedSetIterable iter X.env x = pure x) (h : tLc wi g tYes te (own.map (·.2)) σ H Q)
    (end_ : ∀ D C s' m H', Inv X pins σ H' s' → Q (.ref D) H' → s'.heap.Ns C m → FpOk X pins H' C → compPost (model X.prog X.w) X.A X.xe use Qf (.ref D) C (.ok .next) s') :
    wpAny (model X.prog X.w) X.A (comprehension (.ListComp elt [⟨tg, iter, [], 0⟩] scope pos) scope X.env pos' (newList []) false (eval iter X.env) use) Qf X.xe s := by
  have caps : ∀ y ∈ scope.names, y.2 = .free → ∃ c, X.env.cells.lookup y.1 = some c := fun y hy e => (ok.free y hy e).elim (fun k => I.ok.has _ (.inl k)) fun k => I.ok.has _ (.inr k)
  refine wpAny_comprehension_free (use := use) rfl hs (closure_ok caps) ok.kind (fun y hy e => by rw [ok.uniq y hy, e]) (thn (hi.run pins s σ H _ I h) fun xv s1 hx => thn hx fun itv s2 hit => ?_)
  obtain ⟨it, fp, tn, J, H2, rfl, I2, T, st2, f2, q⟩ := hit
  refine wpAny_newObj_type (newEnv_comp ?_) (by show 0 ≤ sizeLine; decide)
  have newD : H2 s2.heap.objs.size = none := I2.hok.fresh (Nat.le_refl _)
  obtain ⟨W, ⟨m0, w0⟩, turn⟩ := q s2.heap.objs.size newD
  generalize eH : upd H2 s2.heap.objs.size (.lst []) = H3 at w0
  generalize es : ({ s2 with heap := s2.heap.push { cls := .type "list", data := .seq ([] : List Value).toArray } } : Shared) = s3
  have hh : s3.heap = s2.heap.push { cls := .type "list", data := .seq ([] : List Value).toArray } := by rw [← es]
  have I3 : Inv X pins σ H3 s3 := by
    rw [← es, ← eH]
    exact I2.laid (t' := s2.toks) (fun b o e => Heap.get?_push_of_some _ e) (Nat.le_refl _) ⟨Nat.zero_le _, [], 0, .nil, Heap.get?_push_size _ rfl⟩
  have M : Marks X pins H3 s3 fp := fun b hb => by
    obtain ⟨o, e, _⟩ := T.obj _ _ st2 b hb
    have lt := Heap.lt_size e
    refine ⟨⟨?_, (f2 b hb).2⟩, by rw [hh, Heap.size_push]; exact Nat.lt_succ_of_lt lt⟩
    rw [← eH, upd_ne (Nat.ne_of_lt lt)]
    exact (f2 b hb).1
  have I4 := block_start I3 ok hN M
  have st3 : tn 0 s3.heap := T.keep _ _ _ st2 fun b _ o e => by rw [hh]; exact Heap.get?_push_of_some _ e
  show codeAny _ _ (.compStart (.ListComp elt [⟨tg, iter, [], 0⟩] scope pos) 0 (.ref it) (.ref s2.heap.objs.size) (Bk X s3 H3 scope fp).env) (compPost (model X.prog X.w) X.A X.xe use Qf (.ref s2.heap.objs.size) s3.heap.objs.size) { s3 with heap := pushCells (s3.heap.push { cls := .type "dict", data := .dict #[] }) scope.names }
  generalize e4 : ({ s3 with heap := pushCells (s3.heap.push { cls := .type "dict", data := .dict #[] }) scope.names } : Shared) = s4 at I4 ⊢
  have st4 : tn 0 s4.heap := T.keep _ _ _ st3 fun b _ o e => by rw [← e4]; exact pushCells_keeps _ _ _ _ (Heap.get?_push_of_some _ e)
  refine codeAny_compStart_list ?_ (T.self X.A 0 _ _ _ st4 ?_) <;>
  · refine compLoop_any (AtTurn X s3 H3 scope fp (own.map (·.2)) σ tn W) ?_ m0 ⟨0, H3, I4, st4, fun b hb => (M b hb).1.1, w0⟩
    rintro n s5 ⟨i, H5, I5, st5, n5, w5⟩
    rcases turn i n H5 w5 with ⟨stop, done⟩ | ⟨go, Nx, hNx, step⟩
    · refine thnF (T.done (Bk X s3 H3 scope fp) rfl rfl rfl hc i [] s5 _ H5 (fun _ _ => False) I5 (marks_in I5 n5) st5 stop) fun r s6 ⟨hr, I6⟩ => ?_
      subst hr
      obtain ⟨m, hn, _⟩ := I6.loc
      exact end_ _ _ s6 m H5 (M.out I3 I6) done hn (I3.fpOk (Nat.le_refl _) I6.free)
    · refine thnF (T.item (Bk X s3 H3 scope fp) rfl rfl rfl hc i [] s5 _ H5 (fun _ _ => False) I5 (marks_in I5 n5) st5 go) fun r s6 ⟨u, hr, h6⟩ => ?_
      subst hr
      refine thnF h6 fun _ s7 ⟨x, H7, I7, r7, y7, st7, n7⟩ => ?_
      refine thnF ((hg s3 H3 fp).run _ s7 _ H7 x u _ (I7.pinned (marks_in I7 n7) (T.obj _ _ st7)) r7 (step x H7 y7)) fun _ s8 ⟨σ8, H8, I8, hw, q8⟩ => ?_
      refine wpAny_tests_nil ?_
      have q8 : te σ8 H8 fun y H4 => ∃ acc, H4 s2.heap.objs.size = some (.lst acc) ∧ acc.length < sizeLine ∧ Nx (upd H4 s2.heap.objs.size (.lst (acc ++ [y]))) := q8
      rw [if_pos rfl]
      refine thnF (he s3 H3 fp _ s8 σ8 H8 _ pins σ I8 (fun _ _ _ _ K => M.out I3 K) hw q8) fun z s9 ⟨yv, H9, I9, r9, acc, hD, hz, nx⟩ => ?_
      refine app_ok (X := Bk X s3 H3 scope fp) I9 hD hz r9 fun s' K => ?_
      obtain ⟨m', hm, w'⟩ := hNx _ nx
      exact at_next T st7 K hw hm w'
theorem pe_lcO {elt tg iter : Expr} {own : List (Str × Nat)} {pos : Pos} {wi : TI} {g : TG} {te : TE} (hc : X.calm = true) (hN : X.N.Nodup) (hi : PI X tg iter wi) (ok : BlkOk X.N X.env.scope scope own)
    (hg : ∀ (s : Shared) (H : Hp) (fp : List Addr), PG (Bk X s H scope fp) tg g) (he : ∀ (s : Shared) (H : Hp) (fp : List Addr), PEO X (Bk X s H scope fp) (own.map (·.2)) elt te) (hs : ∀ x, foldedSetIterable iter X.env x = pure x := by intro _; rfl) :
    PE X (.ListComp elt [⟨tg, iter, [], 0⟩] scope pos) (tLc wi g tYes te (own.map (·.2))) := by
  refine ⟨fun pins s σ H Q I h => ?_⟩
  rw [eval_ListComp]
  exact lc_told hc hN I hi ok hg he hs h fun D C s' m H' K q hn f => ⟨m, hn, fun h'' sb => ⟨.ref D, H', K.turned (t' := s'.toks) (fun b o hb e => (sb.2 b hb).trans e) f.1 f.2.1 f.2.2.2.1 f.2.2.2.2.1 f.2.2.2.2.2, rfl, q⟩⟩
/-- g(x) in a block, x a lambda that was kept; tb: what g's body is, by the lambda -/
def tCallL (us : List Nat) (Ng : List Str) (G : LamD → Prop) (tb : Addr → LF → Prop → (XK → Hp → VK → Prop) → TS) (te : TE) : TE := fun σ H Q => te σ H fun v H1 => ∃ d f c', v = .ref f ∧ H1 f = some (LamO f (d.1 c') (G d)) ∧ H1 (d.1 c').c = some (CodeO (d.1 c').c (d.1 c').qual) ∧
  tb f (d.1 c') (G d) (fun E H' Q' => d.2 E (wipe σ us) H' Q') { nx := fun _ H' => Q .non H', rt := Q } (L2.start Ng [.ref f]) H1
theorem pe_callL {s0 : Shared} {H0 : Hp} {x a : Str} {g : Addr} {k : Nat} {pg : Arguments} {bg : List Stmt} {sg : Scope} {fd : FuncData} {Ng : List Str} {tb : Addr → LF → Prop → (XK → Hp → VK → Prop) → TS}
    {e : Expr} {te : TE} {p pos : Pos} (hg : Gl (Bk X s0 H0 scope fp) x) (hm : X.mg x = some (.ref g)) (Fg : FunD X.K x x pg bg sg [] [] g fd) (hb : L2.Binds X.K fd [a] []) (Sg : FnScope Ng [a] sg) (hNg : Ng[0]? = some a) (hva : Vis sg a)
    (he : PE (Bk X s0 H0 scope fp) e te) (hr : Room (k + 2) X.A)
    (hG : ∀ (cdg : Value) (s : Shared) (H : Hp) (f : Addr) (F : LF) (G : Prop) (tl : XK → Hp → VK → Prop),
      (∀ (W : WX) (pn : List (Addr × Obj)) (xe : Value → Shared → Prop) (p1 p2 : Pos), Takes ((cxOf L2.CX0 X.prog X.w X.K X.mg X.base Ng x sg g cdg X.A X.stack s H E0).tr pn xe) W →
        PE ((cxOf L2.CX0 X.prog X.w X.K X.mg X.base Ng x sg g cdg X.A X.stack s H E0).tr pn xe) (.Call (.Name a p1) [] [] p2) (tAct 0 f F G W tl)) →
      Room (k + 1) (X.A.deeper (envOfC x sg s.heap.objs.size g cdg)) → PSs (cxOf L2.CX0 X.prog X.w X.K X.mg X.base Ng x sg g cdg X.A X.stack s H E0) bg (tb f F G tl))
    (hdb : (x == ("__debug__" : Str)) = false := by decide) (hd : (a == ("__debug__" : Str)) = false := by decide) (hcd : (a == ("__classdict__" : Str)) = false := by decide)
    (hst : starEach [e] (Bk X s0 H0 scope fp).env = [(false, eval e (Bk X s0 H0 scope fp).env)] := by rfl) :
    PEO X (Bk X s0 H0 scope fp) us (.Call (.Name x p) [e] [] pos) (tCallL us Ng (LamOk X k) tb te) := by
  intro pins s σ H Q pinsO σO I out hw h
  obtain ⟨oc, od, dV, kV, doc, pm, an, cdv, ct, osl, rfl, lk, hcg, _, _⟩ := Fg.ex
  refine wpAny_Call_Name_kw (ld_glob (X := Bk X s0 H0 scope fp) I hg hm ?_ hdb)
  refine PySem.W.callWith_K (h₀ := X.base) I.ok.mod.kin Fg.kp ?_ hst (by rfl)
  rw [hst]
  show wpAny _ _ (spliced [(false, eval e (Bk X s0 H0 scope fp).env)]) _ _ s
  refine Calls.spliced_cons (thn (he.run pins s σ H _ I h) fun u s1 ⟨v, H1, I1, r1, d, f, c', ev, hf, hc, hq⟩ => Calls.spliced_nil ⟨I1.kIn, ?_⟩)
  subst ev
  cases r1
  obtain ⟨params, body, scope2, e1, L, hbind, hbody⟩ := (lamO_at I1.hok hf).2.ex
  rw [e1, hw] at hq
  have maker : Inv X pinsO (wipe σO us) H1 s1 := (out _ _ _ _ I1).weak (by rw [wipe_length]) fun j v e => (wipe_some e).1
  have runs : codeAny (model X.prog X.w) X.A (.call (.ref g) ⟨[.ref f], []⟩) (CR L2.CX0 X.stack X.prog X.w H1 s1 Q E0) s1 :=
    run_ofS (N := Ng) (ps := [a]) (us := [.ref f]) (vs := [.ref f]) lk hcg Sg hr I1.env0 (hb s1 [.ref f] I1.kIn rfl) (.cons rfl .nil) rfl fun hr' =>
      ⟨_, hG cdv s1 H1 f (lfOf X params body scope2 c') (LamOk X k d) (fun E H' Q' => d.2 E (wipe σO us) H' Q') (fun W pn xe p1 p2 tk => pe_actV (i := 0) maker L hbind tk hr' (fun A outer s H E r => hbody A outer s H E f c' r) hNg hva hd hcd) hr', hq⟩
  refine wpAny_call (codeAny_mono runs fun r s2 z => ?_)
  match r, z with
  | .error e, z => exact (show False from z).elim
  | .ok (.ret u), z => exact I1.after z
  | .ok .next, z => exact z.elim
  | .ok .brk, z => exact z.elim
  | .ok .cont, z => exact z.elim
end
end Px

/-! PxLamH: the head's facts with tables of code objects of defs that make lambdas -/
namespace Px
open PySem PySem.Spec PyProof.Rows L2 He
section
variable  {P : Program} {w : World} {K : PySem.W.Frag} {mg : Str → Option Value} {base : Heap} {x qual : Str} {params : Arguments} {body : List Stmt} {scope : Scope} {dvs : List V} {kws : List (Str × V)} {f : Addr} {fd : FuncData}
/-- FunD.ok that tells the code object too -/
theorem fun_okC {CX : CXT} {N ps : List Str} {k : Nat} {sp : Sp} (F : FunD K x qual params body scope dvs kws f fd) (S : FnScope N ps scope) (len : ∀ vs H Q E, sp vs H Q E → vs.length = ps.length)
    (hbody : ∀ (cdv : Value), fd.code = cdv → ∀ (A : Around) (outer : List Env) (s : Shared) (H : Hp) (vs : List V) (Q : VK) (E : XK), Room k (A.deeper (envOfC qual scope s.heap.objs.size f cdv)) → sp vs H Q E →
      ∃ t, PSs (cxOf CX P w K mg base N qual scope f cdv A outer s H E) body t ∧ t { nx := fun _ H' => Q .non H', rt := Q } (start N vs) H) : FnOk P w K mg base CX (k + 1) f fd ps sp := by
  obtain ⟨oc, od, dV, kV, doc, pm, an, cdv, ct, osl, rfl, lk, hcd, _, _⟩ := F.ex
  exact fn_of lk hcd S len fun A outer s H vs Q E hr hsp => hbody cdv rfl A outer s H vs Q E hr hsp
end
def refOf : Value → Option Addr
  | .ref c => some c
  | _ => none
theorem refOf_ok {v : Value} {c : Addr} (h : refOf v = some c) : v = .ref c := by
  cases v with
  | ref a => rw [Option.some.inj h]
  | _ => cases h
def codeOf (K : PySem.W.Frag) (nm : Str) : Option Addr := match K.lookup (ga K nm) with
  | some ⟨_, _, .func fd, _⟩ => refOf fd.code
  | _ => none
theorem code_of {K : PySem.W.Frag} {nm x qual : Str} {params : Arguments} {body : List Stmt} {scope : Scope} {dvs : List V} {kws : List (Str × V)} {fd : FuncData} {c : Addr} (F : FunD K x qual params body scope dvs kws (ga K nm) fd) (h : codeOf K nm = some c) : fd.code = .ref c := by
  obtain ⟨oc, od, dV, kV, doc, pm, an, cdv, ct, osl, rfl, lk, hcd, _, _⟩ := F.ex
  unfold codeOf at h
  rw [lk] at h
  exact refOf_ok h
def tabAt (g : Addr → Option Obj) (c : Addr) : Option Addr := match g c with
  | some ⟨_, _, .fields vs, _⟩ => (match vs.getD 11 .none with
    | .ref P => some P
    | _ => none)
  | _ => none
def emptyB : Option Obj → Bool
  | some ⟨.none, none, .fields vs, sl⟩ => vs.isEmpty && sl.isEmpty
  | _ => false
theorem emptyB_ok {o : Option Obj} (h : emptyB o = true) : o = some { cls := .none, data := .fields #[] } := by
  unfold emptyB at h
  split at h
  · rename_i vs sl
    rw [Bool.and_eq_true] at h
    rw [Array.isEmpty_iff.mp h.1, Array.isEmpty_iff.mp h.2]
  · cases h
def isRef (P : Addr) : Option Value → Bool
  | some (.ref p) => decide (p = P)
  | _ => false
def isStrV : Value → Bool
  | .str _ _ => true
  | _ => false
def isIntV : Value → Bool
  | .int _ _ => true
  | _ => false
def isBoolV : Value → Bool
  | .bool _ => true
  | _ => false
def cdHdB (c P : Addr) : Option Obj → Bool
  | some ⟨.type q, _, .fields vs, _⟩ => decide (q = "code") && (isRef P vs[11]? && (isStrV (vs.getD 18 .none) && (isIntV (vs.getD 7 .none) && (isBoolV (vs.getD 9 .none) && (isIntV (vs.getD 10 .none) && !decide (c = P))))))
  | _ => false
theorem isRef_ok {P : Addr} {o : Option Value} (h : isRef P o = true) : o = some (.ref P) := by
  unfold isRef at h
  split at h
  · rw [of_decide_eq_true h]
  · cases h
theorem isStrV_ok {v : Value} (h : isStrV v = true) : ∃ x t, v = .str x t := by
  unfold isStrV at h
  split at h
  · exact ⟨_, _, rfl⟩
  · cases h
theorem isIntV_ok {v : Value} (h : isIntV v = true) : ∃ x t, v = .int x t := by
  unfold isIntV at h
  split at h
  · exact ⟨_, _, rfl⟩
  · cases h
theorem isBoolV_ok {v : Value} (h : isBoolV v = true) : ∃ x, v = .bool x := by
  unfold isBoolV at h
  split at h
  · exact ⟨_, rfl⟩
  · cases h
theorem cdHdB_ok {h : Heap} {c P : Addr} (e : cdHdB c P (h.get? c) = true) : PySem.W.CodeHd h c P := by
  unfold cdHdB at e
  split at e
  · rename_i q d vs sl z
    obtain ⟨e1, e⟩ := ba e
    obtain ⟨e2, e⟩ := ba e
    obtain ⟨e3, e⟩ := ba e
    obtain ⟨e4, e⟩ := ba e
    obtain ⟨e5, e⟩ := ba e
    obtain ⟨e6, e7⟩ := ba e
    have e1 := of_decide_eq_true e1
    have e2 := isRef_ok e2
    obtain ⟨file, tf, e3⟩ := isStrV_ok e3
    obtain ⟨fl, tg, e4⟩ := isIntV_ok e4
    obtain ⟨inF, e5⟩ := isBoolV_ok e5
    obtain ⟨text, tt, e6⟩ := isIntV_ok e6
    refine ⟨_, vs, file, tf, fl, tg, inF, text, tt, z, by rw [e1], rfl, e2, ?_, e3, e4, e5, e6, ?_⟩
    · rw [Array.getD_eq_getD_getElem?, e2]
      rfl
    · simpa using e7
  · cases e
def tabB (g : Addr → Option Obj) (K : PySem.W.Frag) (nm : Str) : Bool := match codeOf K nm with
  | some c => (match tabAt g c with
    | some P => (K.lookup P).isNone && (emptyB (g P) && cdHdB c P (g c))
    | none => false)
  | none => false
/-- what is known of the def nm's code object and its table -/
def TabH (K : PySem.W.Frag) (h : Heap) (nm : Str) : Prop := ∃ c P, codeOf K nm = some c ∧ K.lookup P = none ∧ h.get? P = some { cls := .none, data := .fields #[] } ∧ PySem.W.CodeHd h c P
theorem tabB_ok {K : PySem.W.Frag} {h : Heap} {nm : Str} (e : tabB h.get? K nm = true) : TabH K h nm := by
  unfold tabB at e
  split at e
  · rename_i c hc
    split at e
    · rename_i P hP
      obtain ⟨e1, e⟩ := ba e
      obtain ⟨e2, e3⟩ := ba e
      exact ⟨c, P, hc, Option.isNone_iff_eq_none.mp e1, emptyB_ok e2, cdHdB_ok e3⟩
    · cases e
  · cases e
def obsLT (fs : List Fact) (ds : List DefA) (es : List ErrN) (ls : List Str) (g : Addr → Option Obj) (K : PySem.W.Frag) : AlA := ((obsN fs ds es K).1 && ls.all fun nm => tabB g K nm, (obsN fs ds es K).2)
def obsLTG (fs : List Fact) (ds : List DefA) (es : List ErrN) (ls : List Str) (g : Addr → Option Obj) : AlA := obsLT fs ds es ls g (frG g (asT g))
theorem obsLT_ok {fs : List Fact} {ds : List DefA} {es : List ErrN} {ls : List Str} {K : PySem.W.Frag} {h : Heap} (e : obsLT fs ds es ls h.get? K = valN ds es) : SaysN fs ds es K ∧ ∀ nm ∈ ls, TabH K h nm := by
  have e1 : (obsLT fs ds es ls h.get? K).1 = true := by rw [e]; rfl
  have e2 : (obsLT fs ds es ls h.get? K).2 = (valN ds es).2 := by rw [e]
  have e1 : ((obsN fs ds es K).1 && ls.all fun nm => tabB h.get? K nm) = true := e1
  have e2 : (obsN fs ds es K).2 = (valN ds es).2 := e2
  obtain ⟨a, b⟩ := ba e1
  exact ⟨Prod.ext a e2, fun nm hm => tabB_ok (List.all_eq_true.mp b nm hm)⟩
def hookLT (fs : List Fact) (ds : List DefA) (es : List ErrN) (ls : List Str) : PySem.W.Hook where
  α := AlA
  obs := fun s => obsLTG fs ds es ls s.heap.get?
  val := fun _ => valN ds es
  says := fun _ h => ∃ K : PySem.W.Frag, K.In h ∧ SaysN fs ds es K ∧ ∀ nm ∈ ls, TabH K h nm
  of := fun _ _ e => ⟨_, frG_in, obsLT_ok e⟩
  keeps := fun _ _ _ ⟨K, hK, c, t⟩ k => ⟨K, PySem.W.Frag.In.keeps hK k, c, fun nm hm => by
    obtain ⟨c, P, h1, h2, h3, h4⟩ := t nm hm
    exact ⟨c, P, h1, h2, k _ _ h3, h4.keeps k⟩⟩
theorem obsLTG_eq {fs : List Fact} {ds : List DefA} {es : List ErrN} {ls : List Str} {g : Addr → Option Obj} {s : Shared} (h : ∀ a, g a = s.heap.get? a) : obsLTG fs ds es ls g = (hookLT fs ds es ls).obs s := by
  have e : g = s.heap.get? := funext h
  subst e
  rfl
end Px

/-! PxLamG: lambdas in laws that call repr: contracts that know that no repr is under way, with one table of code objects -/
namespace Px
open PySem PySem.Spec PyProof.Rows L2
section
variable  {P : Program} {w : World} {K : PySem.W.Frag} {mg : Str → Option Value} {base : Heap} {x qual : Str} {params : Arguments} {body : List Stmt} {scope : Scope} {dvs : List V} {kws : List (Str × V)} {f : Addr} {fd : FuncData}
/-- fnG_ok that tells the code object too -/
theorem fnG_okC {CX : CXT} {N ps : List Str} {k : Nat} {sp : Sp} (F : FunD K x qual params body scope dvs kws f fd) (S : FnScope N ps scope) (len : ∀ vs H Q E, sp vs H Q E → vs.length = ps.length)
    (hbody : ∀ (cdv : Value), fd.code = cdv → ∀ (A : Around) (outer : List Env) (s : Shared) (H : Hp) (vs : List V) (Q : VK) (E : XK), (A.deeper (envOfC qual scope s.heap.objs.size f cdv)).guards = some [] → Room k (A.deeper (envOfC qual scope s.heap.objs.size f cdv)) → sp vs H Q E →
      ∃ t, PSs (cxOf CX P w K mg base N qual scope f cdv A outer s H E) body t ∧ t { nx := fun _ H' => Q .non H', rt := Q } (start N vs) H) : FnG P w K mg base CX (k + 1) f fd ps sp := by
  obtain ⟨oc, od, dV, kV, doc, pm, an, cdv, ct, osl, rfl, lk, hcd, _, _⟩ := F.ex
  refine ⟨len, fun A outer s H args us vs Q E hG hr e0 hb r hsp => ?_⟩
  have KX : K.In s.heap := e0.mod.kin.keeps fun b o e => (e0.bs b o e).1
  have lim : s.heap.NoLimit := e0.mod.nolimit.keeps fun b o e => (e0.bs b o e).1
  have hkind : ∀ y ∈ ps.zip us, scope.names.lookup y.1 = some .local ∨ (scope.names.lookup y.1 = some .cell ∧ ((cellsFrom (s.heap.objs.size + 1) scope.names []).lookup y.1).isSome = true) := fun y hy =>
    (S.par y.1 (List.of_mem_zip (show (y.1, y.2) ∈ ps.zip us from hy)).1).imp id fun q => ⟨q, PySem.W.cellsFrom_some _ _ _ (.inl q)⟩
  refine codeAny_call_function hr.depth (KX _ _ lk) rfl S.co S.gen rfl (PySem.W.codeRec_of KX hcd) (hb _ _ _ _ (wpAny_newFunctionEnv_cells S.kind hkind fun env he s1 x => ?_))
  subst he
  refine ⟨lim.keeps x.toInCall.keep, codeAny_func ?_⟩
  obtain ⟨t, ht, hq⟩ := hbody cdv rfl A outer s H vs Q E hG (hr.deeper _) hsp
  have I : Inv (cxOf CX P w K mg base N qual scope f cdv A outer s H E) [] (start N vs) H s1 := inv_start S hr.hd e0 (len _ _ _ _ hsp) r x
  refine wpAny_mono (ht.run [] s1 (start N vs) H _ I hq) (fun fl s' hs => ?_) fun e s' hs => hs
  match fl, hs with
  | .ret u, ⟨v, σ', H', J, rv, q⟩ => exact ⟨v, H', J.os, J.bare, J.base, J.hok, rv, q⟩
  | .next, ⟨σ', H', J, q⟩ => exact ⟨V.non, H', J.os, J.bare, J.base, J.hok, rfl, q⟩
  | .brk, ⟨_, _, _, q⟩ => exact q.elim
  | .cont, ⟨_, _, _, q⟩ => exact q.elim
end
/-! ### a law's end with one table of code objects -/
section
variable  {P : Program} {w : World} {K : PySem.W.Frag} {mg mb : Str → Option Value} {k : Nat} {fa a c Pt : Addr} {fd : FuncData} {x : Str} {sp : Sp} {s₁ : Shared} {vs : List Value} {H : Hp}
abbrev scriptO (vs : List Value) : Obj := { cls := .type "list", data := .seq vs.toArray }
abbrev tableO : Obj := { cls := .none, data := .fields #[] }
/-- what H may track of the heap at a law's begin: the script at a, the table at Pt -/
structure Trk (K : PySem.W.Frag) (H : Hp) (a Pt : Addr) : Prop where
  ob : ∀ b, H b = none ∨ (b = a ∧ ∃ o xs, H b = some (.frz o (.lst xs))) ∨ (b = Pt ∧ H b = some (.tbl #[]))
  ka : H a ≠ none → K.lookup a = none
theorem Trk.free (T : Trk K H a Pt) (ha : s₁.heap.get? a = some (scriptO vs)) (hP : s₁.heap.get? Pt = some tableO) {b : Addr} {o : Obj} (e : s₁.heap.get? b = some o) (n1 : o ≠ scriptO vs) (n2 : o ≠ tableO) : H b = none := by
  rcases T.ob b with z | ⟨z, _⟩ | ⟨z, _⟩
  · exact z
  · subst z
    rw [ha] at e
    exact (n1 (Option.some.inj e).symm).elim
  · subst z
    rw [hP] at e
    exact (n2 (Option.some.inj e).symm).elim
theorem neq_of {α β : Type} {f : α → β} {x y : α} (h : f x ≠ f y) : x ≠ y := fun z => h (by rw [z])
theorem law_coreT (KX : K.In s₁.heap) (hns : s₁.heap.Ns mainGlobals mg) (hb : s₁.heap.Ns builtinsNs mb) (hbb : ∀ x : Str, x ≠ "__name__" → mb x = bootBuiltins x) (hlim : s₁.heap.NoLimit) (hg : s₁.gens = #[])
    (ha : s₁.heap.get? a = some (scriptO vs)) (hP : s₁.heap.get? Pt = some tableO) (nP : K.lookup Pt = none) (C : PySem.W.CodeHd s₁.heap c Pt)
    (hbm : ∃ (bm : Addr) (ob : Obj), mg "__builtins__" = some (.ref bm) ∧ bm ≠ builtinsNs ∧ s₁.heap.get? bm = some ob ∧ ob.cls = .type "module" ∧ ob.dict = some builtinsNs ∧ ob.data = .plain) (hr : Room k callerA)
    (F : ∀ base : Heap, K.In base → base.Ns mainGlobals mg → LamX.TabB base mg c Pt → FnG P w K mg base CX0 k fa fd [x] sp) (hbind : ∀ (s : Shared) (u : Value), BindsTo s fd ⟨[u], []⟩ [(x, u)])
    (T : Trk K H a Pt) (hT : H Pt = some (.tbl #[])) (hsp : sp [.ref a] H (fun v _ => v = .bl true) fun _ _ _ => False) (hok : HOk P w H s₁.heap) :
    codeAny (model P w) callerA (.call (.ref fa) ⟨[.ref a], []⟩) (fun r s' => r = .ok (.ret (.bool true)) ∧ OldK s₁.heap s'.heap ∧ s'.os = s₁.os ∧ AllBare s'.gens) s₁ := by
  have back : ∀ {b : Addr} {o : Obj}, s₁.heap.get? b = some o → o ≠ scriptO vs → o ≠ tableO → (hidT s₁.heap H).get? b = some o := fun e n1 n2 => hid_at e (T.free ha hP e n1 n2)
  have nsK : ∀ {b : Addr} {m : Str → Option Value}, s₁.heap.Ns b m → (hidT s₁.heap H).Ns b m := fun {b m} ⟨o, es, ep, e, d, r⟩ => ⟨o, es, ep, back e (fun z => by rw [z] at d; cases d) (fun z => by rw [z] at d; cases d), d, r⟩
  have hKb : K.In (hidT s₁.heap H) := fun b o e => hid_at (KX b o e) (by
    rcases T.ob b with z | ⟨z, o', xs, q⟩ | ⟨z, _⟩
    · exact z
    · subst z
      rw [T.ka (by rw [q]; simp)] at e
      cases e
    · subst z
      rw [nP] at e
      cases e)
  have gP : mainGlobals ≠ Pt := fun z => by
    obtain ⟨o, es, ep, e, d, _⟩ := hns
    rw [z, hP] at e
    cases e
    cases d
  have hTB : LamX.TabB (hidT s₁.heap H) mg c Pt := by
    refine ⟨?_, ?_, gP⟩
    · obtain ⟨o, us, file, tf, flags, tg, inF, text, tt, e1, r1, r2, r3, r4⟩ := C
      exact ⟨o, us, file, tf, flags, tg, inF, text, tt, back e1 (fun z => by rw [z] at r2; cases r2) (fun z => by rw [z] at r2; cases r2; simp at r3), r1, r2, r3, r4⟩
    · obtain ⟨bm, ob, b1, b2, b3, b4, b5, b6⟩ := hbm
      refine ⟨bm, ob, b1, b2, fun z => ?_, fun z => ?_, back b3 (fun z => by rw [z] at b6; cases b6) (fun z => by rw [z] at b6; cases b6), b4, b5, b6⟩
      · obtain ⟨o, es, ep, e, d, _⟩ := hns
        rw [z, e] at b3
        cases b3
        rw [d] at b6
        cases b6
      · rw [z, hP] at b3
        cases b3
        cases b6
  have e0 : Env0 P w K mg (hidT s₁.heap H) callerA [] s₁ H := ⟨rfl, ⟨hKb, nsK hns, ⟨mb, nsK hb, hbb⟩, let ⟨mc, h1, h2⟩ := hlim; ⟨mc, nsK h1, h2⟩⟩, fun b o e => of_hidT e, Nat.le_of_eq (hidT_size _ _), trivial, fun b hb => absurd (show b ∈ ([] : List Addr) from hb) (by simp), hok, .of_eq hg⟩
  refine codeAny_mono ((F _ hKb (nsK hns) hTB).run callerA [] s₁ H ⟨[.ref a], []⟩ [.ref a] [.ref a] _ _ rfl hr e0 (hbind s₁ (.ref a)) (.cons rfl .nil) hsp) fun r s' h => ?_
  match r, h with
  | .error _, h => exact h.elim
  | .ok .next, h => exact h.elim
  | .ok .brk, h => exact h.elim
  | .ok .cont, h => exact h.elim
  | .ok (.ret u), ⟨v, H', os, bare, un, hok', r', q⟩ =>
    have q' : v = .bl true := q
    subst q'
    obtain rfl : u = Value.bool true := r'
    obtain ⟨more, gm⟩ := un.tbls Pt #[] hT
    have gm' := hok' Pt _ gm
    have stay : ∀ b o, b ≠ Pt → s₁.heap.get? b = some o → s'.heap.get? b = some o := fun b o nb e => by
      rcases T.ob b with z | ⟨z, ob, xs, q⟩ | ⟨z, _⟩
      · exact un.keep b o e z (fun m => absurd (show b ∈ ([] : List Addr) from m) List.not_mem_nil) List.not_mem_nil
      · have h1 := (hok b _ q).1
        have h2 := (hok' b _ (un.frzs b ob _ q)).1
        rw [e] at h1
        cases h1
        exact h2
      · exact (nb z).elim
    refine ⟨rfl, ⟨fun b o e => ?_, fun b o e => ?_⟩, os, bare⟩
    · by_cases hb : b = Pt
      · subst hb
        rw [hP] at e
        cases e
        exact .inr (.inl ⟨(C.tab hP).isCodeTable, rfl, #[], _, rfl, by rw [Array.empty_append]; exact gm'⟩)
      · exact .inl (stay b o hb e)
    · by_cases hb : b = Pt
      · rw [hb]
        exact ⟨_, gm'⟩
      · exact ⟨o, stay b o hb e⟩
/-- .. from the heap that the head leaves: the script is tracked, if no class or def holds it -/
theorem law_goT {ns : List Int} (KX : K.In s₁.heap) (hns : s₁.heap.Ns mainGlobals mg) (hb : s₁.heap.Ns builtinsNs mb) (hbb : ∀ x : Str, x ≠ "__name__" → mb x = bootBuiltins x) (hlim : s₁.heap.NoLimit) (hg : s₁.gens = #[])
    (ha : s₁.heap.get? a = some (scriptO vs)) (hP : s₁.heap.get? Pt = some tableO) (nP : K.lookup Pt = none) (C : PySem.W.CodeHd s₁.heap c Pt)
    (hbm : ∃ (bm : Addr) (ob : Obj), mg "__builtins__" = some (.ref bm) ∧ bm ≠ builtinsNs ∧ s₁.heap.get? bm = some ob ∧ ob.cls = .type "module" ∧ ob.dict = some builtinsNs ∧ ob.data = .plain) (hi : IntsAre vs ns) (hl : ns.length ≤ sizeLine) (hr : Room k callerA)
    (F : ∀ base : Heap, K.In base → base.Ns mainGlobals mg → LamX.TabB base mg c Pt → FnG P w K mg base CX0 k fa fd [x] sp) (hbind : ∀ (s : Shared) (u : Value), BindsTo s fd ⟨[u], []⟩ [(x, u)])
    (hsp : ∀ H : Hp, H Pt = some (.tbl #[]) → SqL K H a (ns.map V.int) → sp [.ref a] H (fun v _ => v = .bl true) fun _ _ _ => False) :
    codeAny (model P w) callerA (.call (.ref fa) ⟨[.ref a], []⟩) (fun r s' => r = .ok (.ret (.bool true)) ∧ OldK s₁.heap s'.heap ∧ s'.os = s₁.os ∧ AllBare s'.gens) s₁ := by
  have rv := vals_ints hi
  have naP : a ≠ Pt := fun z => by
    rw [z, hP] at ha
    cases ha
  let H0 : Hp := upd (fun _ => none) Pt (.tbl #[])
  have a0 : H0 Pt = some (.tbl #[]) := upd_same
  have n0 : ∀ b, b ≠ Pt → H0 b = none := fun b n => upd_ne n
  cases hk : K.lookup a with
  | some o =>
    have e := KX a o hk
    rw [ha] at e
    cases e
    refine law_coreT (mb := mb) (H := H0) KX hns hb hbb hlim hg ha hP nP C hbm hr F hbind ⟨fun b => ?_, fun z => absurd (n0 a naP) z⟩ a0 (hsp _ a0 (.inr ⟨_, vs.toArray, _, hk, rfl, rfl, rfl, by rw [List.size_toArray, hi.length]; exact hl, by simpa using rv⟩)) fun b u z => ?_
    · by_cases q : b = Pt
      · exact .inr (.inr ⟨q, by rw [q]; exact a0⟩)
      · exact .inl (n0 b q)
    · by_cases q : b = Pt
      · subst q
        have z' := a0.symm.trans z
        cases z'
        exact hP
      · have z' := (n0 b q).symm.trans z
        cases z'
  | none =>
    let H1 : Hp := upd H0 a (.frz (scriptO vs) (.lst (ns.map V.int)))
    have a1 : H1 a = some (.frz (scriptO vs) (.lst (ns.map V.int))) := upd_same
    have b1 : H1 Pt = some (.tbl #[]) := (upd_ne (Ne.symm naP)).trans a0
    have n1 : ∀ b, b ≠ a → b ≠ Pt → H1 b = none := fun b h1 h2 => (upd_ne h1).trans (n0 b h2)
    refine law_coreT (mb := mb) (H := H1) KX hns hb hbb hlim hg ha hP nP C hbm hr F hbind ⟨fun b => ?_, fun _ => hk⟩ b1 (hsp _ b1 (.inl (.inr ⟨_, a1⟩))) fun b u z => ?_
    · by_cases q : b = a
      · exact .inr (.inl ⟨q, _, _, by rw [q]; exact a1⟩)
      · by_cases q2 : b = Pt
        · exact .inr (.inr ⟨q2, by rw [q2]; exact b1⟩)
        · exact .inl (n1 b q q2)
    · by_cases q : b = a
      · subst q
        have z' := a1.symm.trans z
        cases z'
        exact ⟨ha, by rw [List.length_map]; exact hl, vs, _, rv, ha⟩
      · by_cases q2 : b = Pt
        · subst q2
          have z' := b1.symm.trans z
          cases z'
          exact hP
        · have z' := (n1 b q q2).symm.trans z
          cases z'
end
theorem walk_GT {l : PySem.W.OpenLaw} {n k : Nat} {q : Program} {loose : List Str} {XP : (Str → Option Value) → Heap → Prop} {YP : World → Heap → Prop} {d : DefRec} {x : Str}
    (hn : l.most = some n) (hn2 : n ≤ sizeLine) (hdf : d.params.defaults = []) (hr : Room k callerA)
    (F : ∀ (w : World) (mg : Str → Option Value) (fa : Addr) (h : Heap), YP w h → h.Ns mainGlobals mg → mg d.name = some (.ref fa) →
      ∃ (K : PySem.W.Frag) (fd : FuncData) (c Pt : Addr) (sp : Sp), K.In h ∧ h.get? Pt = some tableO ∧ K.lookup Pt = none ∧ PySem.W.CodeHd h c Pt ∧ (∀ (s : Shared) (u : Value), BindsTo s fd ⟨[u], []⟩ [(x, u)]) ∧
        (∀ (H : Hp) (a : Addr) (ns : List Int), ns.length ≤ n → H Pt = some (.tbl #[]) → SqL K H a (ns.map V.int) → sp [.ref a] H (fun v _ => v = .bl true) fun _ _ _ => False) ∧
        ∀ base : Heap, K.In base → base.Ns mainGlobals mg → LamX.TabB base mg c Pt → FnG l.prog w K mg base CX0 k fa fd [x] sp) :
    PySem.W.WalkO q loose XP YP l.row.toRowW d [] (fun f vs => PySem.call f vs) := by
  refine Att.attach_call hn hdf fun w s₀ s₁ mg mb fa o pm cd doc a vs ns G Y ho hd hcd hmg hobj hints hlen hg => ?_
  obtain ⟨K, fd, c, Pt, sp, KX, hP, nP, C, hb, hsp, hF⟩ := F w mg fa _ Y G.T.g hmg
  exact law_goT KX G.T.g G.T.b G.T.builtins G.T.nolimit hg hobj hP nP C G.T.bmain hints (Nat.le_trans hlen hn2) hr hF hb fun H hT hS => hsp H a ns hlen hT hS
end Px

/-! PxTryTup: except clauses of any kind: with a name, without one, of two classes. -/
namespace L2
open PySem PySem.Spec PyProof.Rows
/-- what the clause 'except (x, y)' wishes of an exception of the body -/
def wTwo (K : PySem.W.Frag) (c1 c2 : Value) (ts : Addr → Value → Option Addr → TS) (Wout : WX) (D : Ends) : WX := fun cls d σ H =>
  ∃ b, PySem.W.exmAny K cls [c1, c2] = some b ∧ (b = true → ∀ a, H a = none → ts a cls d D σ H) ∧ (b = false → Wout cls d σ H)
/-- a clause's suite, told -/
def SuiteOk (X : Cx) (sts : List Stmt) (ts : Addr → Value → Option Addr → TS) : Prop :=
  ∀ (a : Addr) (oe : Obj) (cls : Value) (d : Option Addr) (pn : List (Addr × Obj)), Zc cls d oe → (∃ vs, oe.data = .fields vs) → PSs (X.suite a ((a, oe) :: pn)) sts (ts a cls d)
/-- some clauses: what they wish, by what is wished where none of them matches -/
inductive HdB (X : Cx) : List ExceptHandler → (WX → Ends → WX) → Prop
  | nil : HdB X [] (fun W _ => W)
  | named {x n : Str} {c : Value} {i : Nat} {ts : Addr → Value → Option Addr → TS} {b₀ : Stmt} {suite : List Stmt} {np pos' : Pos} {hds : List ExceptHandler} {w : WX → Ends → WX}
      (hi : X.N[i]? = some n) (hln : X.env.kindOf n = some .local) (hc : Names X x c) (hsu : SuiteOk X (b₀ :: suite) ts) (r : HdB X hds w) :
      HdB X (.ExceptHandler (some (.Name x np)) (some n) (b₀ :: suite) pos' :: hds) (fun W D => wAs X.K c i ts (w W D) D)
  | bare {x : Str} {c : Value} {ts : Addr → Value → Option Addr → TS} {b₀ : Stmt} {suite : List Stmt} {np pos' : Pos} {hds : List ExceptHandler} {w : WX → Ends → WX}
      (hc : Names X x c) (hsu : SuiteOk X (b₀ :: suite) ts) (r : HdB X hds w) :
      HdB X (.ExceptHandler (some (.Name x np)) none (b₀ :: suite) pos' :: hds) (fun W D => wOnly X.K c ts (w W D) D)
  | two {x y : Str} {c1 c2 : Value} {ts : Addr → Value → Option Addr → TS} {b₀ : Stmt} {suite : List Stmt} {p1 p2 tp pos' : Pos} {k : Nat} {hds : List ExceptHandler} {w : WX → Ends → WX}
      (hc : Names X x c1) (hc2 : Names X y c2) (hsu : SuiteOk X (b₀ :: suite) ts) (r : HdB X hds w) :
      HdB X (.ExceptHandler (some (.Tuple [.Name x p1, .Name y p2] k tp)) none (b₀ :: suite) pos' :: hds) (fun W D => wTwo X.K c1 c2 ts (w W D) D)
theorem fly_push {base h : Heap} {l : List Env} {e : Addr} {Z : Obj → Prop} {o : Obj} (f : HandSPX.FlyingZ base l e Z h) : HandSPX.FlyingZ base l e Z (h.push o) := by
  obtain ⟨f1, f2, f3, oe, vs, T, oT, ts, he, hz, hd, h1, hnT, hTe, hT, hdT, h3⟩ := f
  have k : ∀ b u, h.get? b = some u → (h.push o).get? b = some u := fun b u q => Heap.get?_push_of_some _ q
  exact ⟨fun b u q => k _ _ (f1 b u q), f2, f3.of_keeps (fun b u q _ => ⟨u, k _ _ q, rfl⟩), oe, vs, T, oT, ts, k _ _ he, hz, hd, h1, hnT, hTe, k _ _ hT, hdT, h3⟩
section
variable {X : Cx} {body : List Stmt} {h₀ : ExceptHandler} {hds : List ExceptHandler} {w : WX → Ends → WX} {pos : Pos} {tb : WX → TS} {Wout : WX}
/-- a suite runs, the exception still at hand -/
theorem suite_runs {sts : List Stmt} {ts : Addr → Value → Option Addr → TS} {a : Addr} {oe : Obj} {cls : Value} {d : Option Addr} {pins : List (Addr × Obj)} {σ : St} {H : Hp} {s : Shared} {D : Ends} {E : Value → Shared → Prop}
    (ok : X.Ok) (hsu : SuiteOk X sts ts) (hz : Zc cls d oe) (hd : ∃ vs, oe.data = .fields vs) (S : Inv (X.suite a ((a, oe) :: (X.pn ++ pins))) [] σ H s) (q : ts a cls d D σ H) :
    wpAny (model X.prog X.w) (X.A.mark (some (.ref a))) (execs sts X.env) (SP X pins D) E s := by
  refine wpAny_mono ((hsu a oe cls d (X.pn ++ pins) hz hd).run [] s σ H D S q) (fun f s6 hsp => ?_) (fun _ _ z => False.elim z)
  cases f with
  | next =>
    obtain ⟨σ6, H6, S6, q6⟩ := hsp
    exact ⟨_, _, S6.unsuite ok, q6⟩
  | brk =>
    obtain ⟨σ6, H6, S6, q6⟩ := hsp
    exact ⟨_, _, S6.unsuite ok, q6⟩
  | cont =>
    obtain ⟨σ6, H6, S6, q6⟩ := hsp
    exact ⟨_, _, S6.unsuite ok, q6⟩
  | ret u =>
    obtain ⟨v6, σ6, H6, S6, r6, q6⟩ := hsp
    exact ⟨_, _, _, S6.unsuite ok, r6, q6⟩
/-- the name of a clause's class is looked up -/
theorem name_looked {x : Str} {c : Value} {np : Pos} {a : Addr} {oe : Obj} {pins : List (Addr × Obj)} {σ : St} {H : Hp} {s : Shared} {Q : Value → Shared → Prop} {E : Value → Shared → Prop} (hc : Names X x c) (S : Inv (X.suite a ((a, oe) :: (X.pn ++ pins))) [] σ H s) (q : Q c s) :
    wpAny (model X.prog X.w) (X.A.mark (some (.ref a))) (eval (.Name x np) X.env) Q E s := by
  obtain ⟨hg, hdbg, hm | ⟨hm, hv, hnn⟩⟩ := hc
  · exact ld_glob (X := X.suite a ((a, oe) :: (X.pn ++ pins))) S hg hm q hdbg
  · exact ld_blt (X := X.suite a ((a, oe) :: (X.pn ++ pins))) S hg hm hv q hnn hdbg
theorem ps_try_all (hs : X.stack = X.env :: X.outer) (hf : X.env.frame = some X.env.locals) (hN : X.N.Nodup) (tk : Takes X Wout)
    (hb : ∀ (W : WX) (pn : List (Addr × Obj)) (xe : Value → Shared → Prop), Takes (X.tr pn xe) W → PassesOwn (model X.prog X.w) X.A X.env xe → PSs (X.tr pn xe) body (tb W))
    (hh : HdB X (h₀ :: hds) w) : PS X (.Try body (h₀ :: hds) [] [] pos) (fun D σ H => tb (w Wout D) D σ H) := by
  refine ⟨fun pins s σ H D I h => ?_⟩
  have ok := I.ok
  have hfr : X.A.frames = some (X.env :: X.outer) := by rw [ok.frames, hs]
  refine wpAny_Try_except (wpAny_mono ((hb (w Wout D) (X.pn ++ pins) (fun e s₁ => wpAny (model X.prog X.w) X.A (noteFrame e X.env) (fun _ s₂ => wpAny (model X.prog X.w) X.A (setFlight e none) (fun _ s₃ =>
    wpAny (model X.prog X.w) X.A (handleBy e X.env (h₀ :: hds)) (SP X pins D) X.xe s₃) X.xe s₂) X.xe s₁) (fun u s' xx => ?_) PassesOwn.looking).run [] s σ H D (I.toTry _) h) (fun f s1 hsp => ?_) (fun e s1 he => he))
  · obtain ⟨a, B, sI, pins', σ', H', cls, d, rfl, J', nb, up, sky, na, os, ag, wish⟩ := xx
    have J : Inv X pins σ' H' sI := J'.ofTry ok
    have sky' : Sky B (X.env :: X.outer) a (Zc cls d) X.env.locals s'.heap := by rw [← hs]; exact sky
    show wpAny (model X.prog X.w) X.A (noteFrame (.ref a) X.env) _ _ _
    refine Sky.land Zc.steady hfr hf sky' fun h3 fl3 up3 => ?_
    -- in any heap in which the exception has landed
    have suited : ∀ {h : Heap} {t : Nat}, HandSPX.FlyingZ B (X.env :: X.outer) a (Zc cls d) h → s'.heap.UpToSlots h → ∃ oe vs, h.get? a = some oe ∧ Zc cls d oe ∧ oe.data = .fields vs ∧ Inv X pins σ' H' { s' with heap := h, toks := t } ∧ Inv (X.suite a ((a, oe) :: (X.pn ++ pins))) [] σ' H' { s' with heap := h, toks := t } := fun {h t} fl upx => by
      have Jx : Inv X pins σ' H' { s' with heap := h, toks := t } := Inv.landed (s' := { s' with heap := h, toks := t }) J nb fl.1 (up.trans upx) os ag
      obtain ⟨oe, vs, he, hz, hd⟩ := fl.there
      have nfr : a ∉ frs (X.env :: X.outer) := fun hm => by
        obtain ⟨_, o', e', hnf⟩ := fl.2.2.1.mem hm
        rw [he] at e'
        cases e'
        exact hnf _ hd
      have nL : a ≠ X.env.locals := fun z => nfr (List.mem_filterMap.mpr ⟨X.env, List.mem_cons_self, by rw [hf, z]⟩)
      have nF : a ∉ X.fs := fun hm => by
        obtain ⟨e, he, q⟩ := List.mem_filterMap.mp hm
        exact nfr (List.mem_filterMap.mpr ⟨e, List.mem_cons_of_mem _ he, q⟩)
      exact ⟨oe, vs, he, hz, hd, Jx, Jx.suite he hd na nL nF⟩
    suffices go : ∀ {hds' : List ExceptHandler} {w' : WX → Ends → WX}, HdB X hds' w' → ∀ (h : Heap) (t : Nat), HandSPX.FlyingZ B (X.env :: X.outer) a (Zc cls d) h → s'.heap.UpToSlots h → w' Wout D cls d σ' H' →
        wpAny (model X.prog X.w) X.A (handleBy (.ref a) X.env hds') (SP X pins D) X.xe { s' with heap := h, toks := t } from go hh h3 s'.toks fl3 up3 wish
    intro hds' w' hk
    induction hk with
    | nil =>
      intro h t fl upx wi
      refine wpAny_handleBy_nil ?_
      obtain ⟨k1, k2, k3, oe, vs, T, oT, ts', he, hz, hd, h1, hr⟩ := id fl
      unfold PySem.passOn
      refine wpAny_bind (wpAny_field he hd h1 ?_)
      rw [if_neg (show ¬ ((Value.ref T == Value.none) = true) from by simp)]
      have fin : wpAny (model X.prog X.w) X.A (setFlight (.ref a) X.env.frame) (fun _ s4 => wpAny (model X.prog X.w) X.A (throw (.ref a) : Sem Flow) (SP X pins D) X.xe s4) X.xe { s' with heap := h, toks := t } := by
        rw [hf]
        refine HandSPX.setFlight_upZ fl fun h4 hh4 up4 => wpAny_throw (tk _ _ ?_)
        exact ⟨a, B, sI, pins, σ', H', cls, d, rfl, J, nb, (up.trans upx).trans up4, .inr (.inr (by rw [hs]; exact hh4)), na, os, ag, wi⟩
      first
        | exact wpAny_bind (wpAny_pure (wpAny_bind fin))
        | exact wpAny_bind fin
    | @named x n c i ts b₀ suite np pos' hds2 w2 hi hln hc hsu r ih =>
      rintro h t fl upx ⟨b, hb1, hyes, hno⟩
      obtain ⟨oe, vs, he, hz, hd, Jx, Sx⟩ := suited (t := t) fl upx
      refine wpAny_handleBy_cons (codeAny_handlers_test ?_) (by intro q; cases q)
      have LT : PySem.W.Looks (model X.prog X.w) h (typeOf (.ref a)) cls := fun A Q E s k q => wpAny_typeOf_ref (k _ _ he) (by rw [hz.1]; exact q)
      refine name_looked hc Sx ((PySem.W.exm_one (M := model X.prog X.w) Jx.kIn LT hb1).here ?_)
      cases b with
      | false => exact ih h t fl upx (hno rfl)
      | true =>
        refine codeAny_handlers_suite_as (HandSPX.lands_againZ fl fun h4 fl4 up4 => ?_)
        obtain ⟨oe4, vs4, he4, hz4, hd4, J4, S4⟩ := suited (t := t) fl4 (upx.trans up4)
        refine store_ok (X := X.suite a ((a, oe4) :: (X.pn ++ pins))) (v := .ref a) S4 hN hi (.inl hln) rfl (fun s5 S5 => ?_) (.inr hln)
        refine wpAny_mono ((hsu a oe4 cls d (X.pn ++ pins) hz4 ⟨_, hd4⟩).run [] s5 _ H' _ S5 (hyes rfl a na)) (fun f s6 hsp => ?_) (fun _ _ z => False.elim z)
        have end_ : ∀ {σ6 : St} {H6 : Hp} {Q : Shared → Prop}, Inv (X.suite a ((a, oe4) :: (X.pn ++ pins))) [] σ6 H6 s6 → (∀ s7, Inv X pins (σ6.set i none) H6 s7 → Q s7) →
            wpAny (model X.prog X.w) X.A (do bindName X.env n .none; unbindBehindTheSuite X.env n pos') (fun _ s7 => Q s7) X.xe s6 := fun {σ6 H6 Q} S6 hq => gone_ok (S6.unsuite ok) hN hi hln hq
        cases f with
        | next =>
          obtain ⟨σ6, H6, S6, q6⟩ := hsp
          exact end_ S6 fun s7 J7 => ⟨_, _, J7, q6⟩
        | brk =>
          obtain ⟨σ6, H6, S6, q6⟩ := hsp
          exact end_ S6 fun s7 J7 => ⟨_, _, J7, q6⟩
        | cont =>
          obtain ⟨σ6, H6, S6, q6⟩ := hsp
          exact end_ S6 fun s7 J7 => ⟨_, _, J7, q6⟩
        | ret u =>
          obtain ⟨v6, σ6, H6, S6, r6, q6⟩ := hsp
          exact end_ S6 fun s7 J7 => ⟨_, _, _, J7, r6, q6⟩
    | @bare x c ts b₀ suite np pos' hds2 w2 hc hsu r ih =>
      rintro h t fl upx ⟨b, hb1, hyes, hno⟩
      obtain ⟨oe, vs, he, hz, hd, Jx, Sx⟩ := suited (t := t) fl upx
      refine wpAny_handleBy_cons (codeAny_handlers_test ?_) (by intro q; cases q)
      have LT : PySem.W.Looks (model X.prog X.w) h (typeOf (.ref a)) cls := fun A Q E s k q => wpAny_typeOf_ref (k _ _ he) (by rw [hz.1]; exact q)
      refine name_looked hc Sx ((PySem.W.exm_one (M := model X.prog X.w) Jx.kIn LT hb1).here ?_)
      cases b with
      | false => exact ih h t fl upx (hno rfl)
      | true =>
        refine codeAny_handlers_suite (HandSPX.lands_againZ fl fun h4 fl4 up4 => ?_)
        obtain ⟨oe4, vs4, he4, hz4, hd4, J4, S4⟩ := suited (t := t) fl4 (upx.trans up4)
        exact suite_runs ok hsu hz4 ⟨_, hd4⟩ S4 (hyes rfl a na)
    | @two x y c1 c2 ts b₀ suite p1 p2 tp pos' k hds2 w2 hc hc2 hsu r ih =>
      rintro h t fl upx ⟨b, hb1, hyes, hno⟩
      obtain ⟨oe, vs, he, hz, hd, Jx, Sx⟩ := suited (t := t) fl upx
      refine wpAny_handleBy_cons (codeAny_handlers_test ?_) (by intro q; cases q)
      refine Tuple_ (spliced_more (name_looked hc Sx (spliced_more (name_looked hc2 Sx (spliced_none ?_)))))
      refine wpAny_newObj_type ?_ (by show 2 ≤ sizeLine; decide)
      have fl2 : HandSPX.FlyingZ B (X.env :: X.outer) a (Zc cls d) (h.push { cls := .type "tuple", data := .seq [c1, c2].toArray }) := fly_push fl
      have up2 : s'.heap.UpToSlots (h.push { cls := .type "tuple", data := .seq [c1, c2].toArray }) := upx.trans (Heap.UpToSlots.of_keeps fun b o e => Heap.get?_push_of_some _ e)
      obtain ⟨oe2, vs2, he2, hz2, hd2, J2, S2⟩ := suited (t := t) fl2 up2
      have LT : PySem.W.Looks (model X.prog X.w) (h.push { cls := .type "tuple", data := .seq [c1, c2].toArray }) (typeOf (.ref a)) cls := fun A Q E s k q => wpAny_typeOf_ref (k _ _ he2) (by rw [hz2.1]; exact q)
      refine (PySem.W.exm_tup2 (M := model X.prog X.w) J2.kIn LT (Heap.get?_push_size _ rfl) hb1).here ?_
      cases b with
      | false => exact ih _ t fl2 up2 (hno rfl)
      | true =>
        refine codeAny_handlers_suite (HandSPX.lands_againZ fl2 fun h4 fl4 up4 => ?_)
        obtain ⟨oe4, vs4, he4, hz4, hd4, J4, S4⟩ := suited (t := t) fl4 (up2.trans up4)
        exact suite_runs ok hsu hz4 ⟨_, hd4⟩ S4 (hyes rfl a na)
  · cases f with
    | next =>
      obtain ⟨σ', H', J', q⟩ := hsp
      exact wpAny_execs_nil ⟨σ', H', J'.ofTry ok, q⟩
    | brk =>
      obtain ⟨σ', H', J', q⟩ := hsp
      exact ⟨σ', H', J'.ofTry ok, q⟩
    | cont =>
      obtain ⟨σ', H', J', q⟩ := hsp
      exact ⟨σ', H', J'.ofTry ok, q⟩
    | ret u =>
      obtain ⟨v, σ', H', J', r, q⟩ := hsp
      exact ⟨v, σ', H', J'.ofTry ok, r, q⟩
end
end L2

/-! PxRule: what rules of reading want -/
namespace Px
open PySem PySem.Spec PyProof.Rows L2
abbrev rUpper : V → List V → Hp → VK → Prop := fun x xs H Q => ∃ a, x = .str a ∧ xs = [] ∧ a.length ≤ 5592405 ∧ Q (.str (Txt.upper a)) H
/-- a text is not behind another one -/
abbrev rLeS : R2 := fun x y H Q => ∃ i j, x = .str i ∧ y = .str j ∧ Q (.bl (!decide (j.cps.toList < i.cps.toList))) H
theorem r_leS {i j : Str} {H : Hp} {Q : VK} (h : Q (.bl (!decide (j.cps.toList < i.cps.toList))) H) : rLeS (.str i) (.str j) H Q := ⟨i, j, rfl, rfl, h⟩
theorem op_leS {X : Cx} : OpR X (compareOp .LtE) rLeS := op_le_str
/-! ### list(text) -/
theorem vals_at : ∀ {xs : List V} {us : List Value}, us.length = xs.length → (∀ (j : Nat) x u, xs[j]? = some x → us[j]? = some u → RelV x u) → Vals xs us
  | [], [], _, _ => .nil
  | [], _ :: _, h, _ => by cases h
  | _ :: _, [], h, _ => by cases h
  | x :: xs, u :: us, h, k => .cons (k 0 x u rfl rfl) (vals_at (Nat.succ.inj h) fun j y w a b => k (j + 1) y w a b)
def rListTx : List V → Hp → VK → Prop := fun xs H Q => ∃ z : Str, xs = [.str z] ∧ z.length ≤ sizeLine ∧ ∀ l, H l = none → Q (.ref l) (upd H l (.lst (z.cps.toList.map fun c => V.str ⟨#[c]⟩)))
theorem call_listS {X : Cx} (hcal : X.calm = true) : CallR X (.type "list") rListTx := by
  intro pins s σ H xs us Q I r h
  obtain ⟨z, rfl, hz, q⟩ := h
  obtain ⟨u, rfl, t, rfl⟩ := vals1 r
  refine call_list_str (I.ok.hd hcal) z t (fun h' tk acc' c' kp e it => ?_) hz
  have hl : (z.cps.toList.map fun c => V.str ⟨#[c]⟩).length = z.length := by
    rw [List.length_map, Array.length_toList]
    rfl
  refine ⟨.ref s.heap.objs.size, _, I.laid (t' := tk) kp (Nat.le_refl _) (show ObjOk X.prog X.w _ h' _ (.lst _) from ⟨by rw [hl]; exact hz, acc'.toList, c', vals_at (by rw [hl, Array.length_toList]; exact it.1) fun j x u hx hu => ?_, by simpa using e⟩), rfl, q _ (I.hok.fresh (Nat.le_refl _))⟩
  rw [Array.getElem?_toList] at hu
  obtain ⟨c, tk2, hc, rfl⟩ := it.2 j u hu
  rw [List.getElem?_map, Array.getElem?_toList, hc] at hx
  cases hx
  exact ⟨tk2, rfl⟩
theorem r_listTx {z : Str} {H : Hp} {Q : VK} (hz : z.length ≤ sizeLine) (h : ∀ l, H l = none → Q (.ref l) (upd H l (.lst (z.cps.toList.map fun c => V.str ⟨#[c]⟩)))) : rListTx [.str z] H Q := ⟨z, rfl, hz, h⟩
end Px

/-! PxExm: whether an except clause names an exception's class, as a fact of the head; steps for suites of clauses of any kind -/
namespace Px
open PySem PySem.Spec PyProof.Rows L2 He
section
variable {K : PySem.W.Frag} {H : Hp} {σ : S} {D : Ends} {Q : VK}
theorem exm_any2 {cls c1 c2 : Value} {b1 b2 : Bool} (h1 : PySem.W.exmOne K cls c1 = some b1) (h2 : PySem.W.exmOne K cls c2 = some b2) : PySem.W.exmAny K cls [c1, c2] = some (b1 || b2) := by
  simp [PySem.W.exmAny, h1, h2]
theorem r_wAsNo {cls : Value} {C : Addr} {d : Option Addr} {i : Nat} {ts : Addr → Value → Option Addr → TS} {Wout : WX} (te : PySem.W.exmOne K cls (.ref C) = some false) (h : Wout cls d σ H) : wAs K (.ref C) i ts Wout D cls d σ H := ⟨false, te, (fun z => nomatch z), fun _ => h⟩
theorem r_wOnlyNo {cls : Value} {C : Addr} {d : Option Addr} {ts : Addr → Value → Option Addr → TS} {Wout : WX} (te : PySem.W.exmOne K cls (.ref C) = some false) (h : Wout cls d σ H) : wOnly K (.ref C) ts Wout D cls d σ H := ⟨false, te, (fun z => nomatch z), fun _ => h⟩
theorem r_wTwo1 {cls c1 c2 : Value} {d : Option Addr} {ts : Addr → Value → Option Addr → TS} {Wout : WX} {b2 : Bool} (h1 : PySem.W.exmOne K cls c1 = some true) (h2 : PySem.W.exmOne K cls c2 = some b2) (h : ∀ a, H a = none → ts a cls d D σ H) : wTwo K c1 c2 ts Wout D cls d σ H :=
  ⟨true, by rw [exm_any2 h1 h2]; rfl, fun _ => h, fun z => nomatch z⟩
theorem r_wTwo2 {cls c1 c2 : Value} {d : Option Addr} {ts : Addr → Value → Option Addr → TS} {Wout : WX} {b1 : Bool} (h1 : PySem.W.exmOne K cls c1 = some b1) (h2 : PySem.W.exmOne K cls c2 = some true) (h : ∀ a, H a = none → ts a cls d D σ H) : wTwo K c1 c2 ts Wout D cls d σ H :=
  ⟨true, by rw [exm_any2 h1 h2, Bool.or_true], fun _ => h, fun z => nomatch z⟩
theorem r_wTwoNo {cls c1 c2 : Value} {d : Option Addr} {ts : Addr → Value → Option Addr → TS} {Wout : WX} (h1 : PySem.W.exmOne K cls c1 = some false) (h2 : PySem.W.exmOne K cls c2 = some false) (h : Wout cls d σ H) : wTwo K c1 c2 ts Wout D cls d σ H :=
  ⟨false, by rw [exm_any2 h1 h2]; rfl, (fun z => nomatch z), fun _ => h⟩
end
/-! ### defs with defaults that are all written in the call -/
section
variable {K : PySem.W.Frag} {x qual : Str} {params : Arguments} {body : List Stmt} {scope : Scope} {dvs : List V} {kws : List (Str × V)} {f : Addr} {fd : FuncData} {ps : List Str}
theorem binds_all (F : FunD K x qual params body scope dvs kws f fd) (hd : dvs ≠ [])
    (h : ∀ (T : Addr) (kV doc pm : Value) (an : Option Addr) (cdv ct : Value) (us its : List Value), us.length = ps.length → its.length = dvs.length →
      ∃ k, bindArgs (PySem.W.fnOf x qual params body scope (.ref T) kV doc pm an cdv ct) ⟨us, []⟩ = seqItems? (.ref T) >>= k ∧ k (some its.toArray) = pure (ps.zip us)) : Binds K fd ps [] := by
  obtain ⟨ds, r, b⟩ := FunD.binds1 (ps := ps) F ps.length dvs.length hd (by omega) fun T kV doc pm an cdv ct us its h1 h2 => by
    obtain ⟨k, e1, e2⟩ := h T kV doc pm an cdv ct us its h1 h2
    refine ⟨k, e1, ?_⟩
    rw [← h2, List.drop_length, List.append_nil]
    exact e2
  rw [List.drop_length] at r
  cases r
  exact b
end
end Px

/-! PxLcX: [e for x in it], the element lets something out -/
namespace Px
open PySem PySem.Spec PyProof.Rows L2 LamX NdefX
/-- where the block's own names live -/
abbrev BkC (s : Shared) : Addr := s.heap.objs.size
/-- the block's context, what its element may let out told by E -/
abbrev BkR (X : Cx) (s : Shared) (H : Hp) (scope : Scope) (fp : List Addr) (E : XK) : Cx :=
  (Bk X s H scope fp).wish fun e s' => ∃ (pins : List (Addr × Obj)) (σ : LS) (H1 : Hp) (s1 : Shared), Inv (Bk X s H scope fp) pins σ H1 s1 ∧ L2.CX X.prog X.w X.stack H1 s1 E e s'
section
variable {X : Cx} {pins : List (Addr × Obj)} {s3 : Shared} {σ : LS} {H3 : Hp} {scope : Scope} {fp : List Addr} {us : List Nat} {E : XK}
theorem ok_wish {Y : Cx} {xe : Value → Shared → Prop} (k : Y.Ok) : (Y.wish xe).Ok := ⟨k.mod, k.kind, k.glob, k.blt, k.above, k.inj, k.has, k.cab, k.hd, k.frames, k.stk, k.exf, k.bs, k.bsz, k.noex, k.exfs, k.funs, k.frf⟩
theorem ok_unwish {Y : Cx} {xe : Value → Shared → Prop} (k : (Y.wish xe).Ok) : Y.Ok := ⟨k.mod, k.kind, k.glob, k.blt, k.above, k.inj, k.has, k.cab, k.hd, k.frames, k.stk, k.exf, k.bs, k.bsz, k.noex, k.exfs, k.funs, k.frf⟩
theorem inv_wish {Y : Cx} {xe : Value → Shared → Prop} {pins : List (Addr × Obj)} {σ : LS} {H : Hp} {s : Shared} (I : Inv Y pins σ H s) : Inv (Y.wish xe) pins σ H s := ⟨ok_wish I.ok, I.os, I.bare, I.base, I.loc, I.cell, I.free, I.freeC, I.pin, I.hok, I.len⟩
theorem inv_unwish {Y : Cx} {xe : Value → Shared → Prop} {pins : List (Addr × Obj)} {σ : LS} {H : Hp} {s : Shared} (I : Inv (Y.wish xe) pins σ H s) : Inv Y pins σ H s := ⟨ok_unwish I.ok, I.os, I.bare, I.base, I.loc, I.cell, I.free, I.freeC, I.pin, I.hok, I.len⟩
/-- a call in the element lets out what E tells of -/
theorem pass_blk (σ : LS) : PassesAt (L2.CX X.prog X.w) (BkR X s3 H3 scope fp E) σ (WE (fun cls d _ H => E cls d H) σ) := fun pins H s e s' I c => ⟨pins, σ, H, s, inv_unwish I, c⟩
theorem hid_ne {h : Heap} {C b : Addr} {o : Obj} (e : h.get? b = some o) (n : b ≠ C) : (PySem.W.hideAll h [C]).get? b = some o := PySem.W.hideAll_get _ e fun m => n (List.mem_singleton.mp m)
theorem hid_of {h : Heap} {C b : Addr} {o : Obj} (e : (PySem.W.hideAll h [C]).get? b = some o) : h.get? b = some o ∧ b ≠ C := ⟨PySem.W.of_hideAll _ e, fun z => by
  rw [z, PySem.W.hideAll_none _ (List.mem_singleton.mpr rfl)] at e
  cases e⟩
theorem hid_none {h : Heap} {C b : Addr} (e : h.get? b = none) : (PySem.W.hideAll h [C]).get? b = none := by
  cases q : (PySem.W.hideAll h [C]).get? b with
  | none => rfl
  | some o => rw [(hid_of q).1] at e; cases e
theorem hok_hid {P : Program} {w : World} {H : Hp} {h : Heap} {C : Addr} (k : HOk P w H h) (n : H C = none) : HOk P w H (PySem.W.hideAll h [C]) := fun b o q =>
  (k b o q).stay (fun c u hc r => hid_ne r fun z => by
    rcases hc with hc | hc
    · rw [← hc, z, n] at q; cases q
    · rw [z, n] at hc; cases hc) (fun _ r => r) fun _ _ r => r
/-- what the def knew is known still, the block's own names put aside -/
theorem Marks.outC (M : Marks X pins H3 s3 fp) (I3 : Inv X pins σ H3 s3) {pins' : List (Addr × Obj)} {σ' : LS} {H' : Hp} {s' : Shared} (J : Inv (Bk X s3 H3 scope fp) pins' σ' H' s') :
    Inv X pins σ H' { s' with heap := PySem.W.hideAll s'.heap [BkC s3] } := by
  have u : Un (frs X.stack) fp H3 H' s3.heap s'.heap := J.base
  have ne : ∀ {b o}, s3.heap.get? b = some o → b ≠ BkC s3 := fun e => Nat.ne_of_lt (Heap.lt_size e)
  refine I3.call' (ch := fp) J.os ⟨fun b o e n hb hx => hid_ne (u.keep b o e n hb hx) (ne e), fun b o e n hb hx => ?_, fun b o e n hx => u.free b o e n hx, fun b o e hx => ?_, u.tups, u.frzs, u.tbls⟩ (hok_hid J.hok J.free) J.bare fun b hb => ?_
  · obtain ⟨sl, q⟩ := u.slot b o e n hb hx
    exact ⟨sl, hid_ne q (ne e)⟩
  · obtain ⟨o', q⟩ := u.there b o e hx
    exact ⟨o', hid_ne q (ne e)⟩
  · have f := (M b hb).1
    exact ⟨f.2.2.2.1, f.2.1, f.2.2.2.2.1, f.2.2.2.2.2⟩
theorem traced_hid {h B : Heap} {C a : Addr} {Z : Obj → Prop} {fl : Value} (t : HandSPX.TracedZ h B a Z fl) : HandSPX.TracedZ h (PySem.W.hideAll B [C]) a Z fl := by
  obtain ⟨oe, vs, T, oT, ts, he, hz, hd, h1, hnT, r⟩ := t
  exact ⟨oe, vs, T, oT, ts, he, hz, hd, h1, hid_none hnT, r⟩
theorem flying_hid {h B : Heap} {C a : Addr} {l : List Env} {Z : Obj → Prop} (f : HandSPX.FlyingZ B l a Z h) : HandSPX.FlyingZ (PySem.W.hideAll B [C]) l a Z h :=
  ⟨fun b o e => f.1 b o (hid_of e).1, hid_none f.2.1, funFrames_none f.2.2.1 fun L hL => hid_none (f.2.2.1.mem hL).1, traced_hid f.2.2.2⟩
/-- a call's exception, the block's names neither in the ground nor in the state -/
theorem call_ground {H : Hp} {s s' : Shared} {C : Addr} {m : Str → Option Value} {u : Value} (I : Inv X pins σ H { s with heap := PySem.W.hideAll s.heap [C] }) (nC : H C = none) (nF : C ∉ frs X.stack) (hC : s.heap.Ns C m) (c : L2.CX X.prog X.w X.stack H s E u s') :
    ∃ (a : Addr) (B : Heap) (sI : Shared) (H' : Hp) (cls : Value) (d : Option Addr), u = .ref a ∧ Inv X pins σ H' sI ∧ (∀ b o, sI.heap.get? b = some o → b ∉ frs X.stack → B.get? b = some o) ∧ sI.heap.UpToSlots s'.heap ∧
      HandSPX.FlyingZ B X.stack a (Zc cls d) s'.heap ∧ H' a = none ∧ s'.os = sI.os ∧ AllBare s'.gens ∧ E cls d H' ∧ B.get? C = none ∧ sI.heap.get? C = none ∧ s'.heap.Ns C m := by
  obtain ⟨a, B0, H', cls, d, rfl, fl0, hok0, ub, na, os, ag, hE⟩ := c
  have hCs : s'.heap.Ns C m := by
    obtain ⟨o, es, ep, e, r⟩ := hC
    exact ⟨o, es, ep, fl0.1 C o (ub.keep C o e nC nF), r⟩
  have nC' : H' C = none := by
    obtain ⟨o, es, ep, e, r⟩ := hC
    exact ub.free C o e nC
  have fl := flying_hid (C := C) fl0
  have hok := hok_hid hok0 nC'
  generalize eB : PySem.W.hideAll B0 [C] = B at fl hok
  have bk : ∀ {b o}, B0.get? b = some o → b ≠ C → B.get? b = some o := fun e n => by rw [← eB]; exact hid_ne e n
  have bC : B.get? C = none := by rw [← eB]; exact PySem.W.hideAll_none _ (List.mem_singleton.mpr rfl)
  obtain ⟨G, g1, g2⟩ := restrict s'.heap fun b => (B.get? b).isSome || decide (b ∈ frs X.stack)
  have st : B.StaysIn s'.heap := fl.1
  have gB : ∀ b o, B.get? b = some o → G.get? b = some o := fun b o e => by
    rw [g1 b (by simp [e])]
    exact st b o e
  have gF : ∀ b, b ∈ frs X.stack → G.get? b = s'.heap.get? b := fun b hb => g1 b (by simp [hb])
  have og : ∀ b o, G.get? b = some o → s'.heap.get? b = some o ∧ ((B.get? b).isSome = true ∨ b ∈ frs X.stack) := fun b o e => by
    cases q : ((B.get? b).isSome || decide (b ∈ frs X.stack)) with
    | false => rw [g2 b q] at e; cases e
    | true =>
      rw [g1 b q] at e
      exact ⟨e, by simpa [Bool.or_eq_true] using q⟩
  refine ⟨a, B, { s with heap := G, gens := s'.gens, drawn := s'.drawn, toks := s'.toks }, H', cls, d, rfl, ?_, fun b o e hb => ?_, Heap.UpToSlots.of_keeps fun b o e => (og b o e).1, fl, na, os, ag, hE, bC, ?_, hCs⟩
  · refine I.call' (s' := { s with heap := G, gens := s'.gens, drawn := s'.drawn, toks := s'.toks }) (ch := []) rfl ⟨fun b o e n hb _ => ?_, fun b o e n hb _ => ?_, fun b o e n _ => ub.free b o (hid_of e).1 n, fun b o e _ => ?_, ub.tups, ub.frzs, ub.tbls⟩ (hok.kept gB) ag (fun _ z => nomatch z)
    · exact gB b o (bk (ub.keep b o (hid_of e).1 n hb) (hid_of e).2)
    · obtain ⟨sl, q⟩ := ub.slot b o (hid_of e).1 hb
      exact ⟨sl, by rw [gF b hb]; exact q⟩
    · by_cases hb : b ∈ frs X.stack
      · obtain ⟨sl, q⟩ := ub.slot b o (hid_of e).1 hb
        exact ⟨_, by rw [gF b hb]; exact q⟩
      · obtain ⟨o', q⟩ := ub.there b o (hid_of e).1 hb
        exact ⟨o', gB b o' (bk q (hid_of e).2)⟩
  · obtain ⟨e', h⟩ := og b o e
    rcases h with h | h
    · obtain ⟨o', q⟩ := Option.isSome_iff_exists.mp h
      have z := st b o' q
      rw [e'] at z; cases z
      exact q
    · exact absurd h hb
  · exact g2 C (by simp [bC, nF])
/-- it goes on from the block into the def -/
theorem blk_raises (hs : X.stack = X.env :: X.outer) (hf : X.env.frame = some X.env.locals) (tk : Takes X (fun cls d _ H => E cls d H)) (M : Marks X pins H3 s3 fp) (I3 : Inv X pins σ H3 s3) {e : Value} {s' : Shared}
    (x : ∃ (pins : List (Addr × Obj)) (σ : LS) (H1 : Hp) (s1 : Shared), Inv (Bk X s3 H3 scope fp) pins σ H1 s1 ∧ L2.CX X.prog X.w X.stack H1 s1 E e s') :
    notedBy (model X.prog X.w) X.A (Bk X s3 H3 scope fp).env (fun e s' => CompFails (model X.prog X.w) X.A X.xe (Bk X s3 H3 scope fp).env e s') e s' := by
  obtain ⟨pins', σ', H1, s1, J, c⟩ := x
  have I1 := Marks.outC M I3 J
  obtain ⟨m, hC, _⟩ := J.loc
  have nF : BkC s3 ∉ frs X.stack := fun hm => by
    obtain ⟨_, o, e, _⟩ := I3.stack.mem hm
    exact Nat.lt_irrefl _ (Heap.lt_size e)
  obtain ⟨a, B, sI, H', cls, d, rfl, I, nb, up, fl, na, os, ag, hE, bC, sC, hC'⟩ := call_ground I1 J.free nF hC c
  have hfr : X.A.frames = some (X.env :: X.outer) := by rw [I3.ok.frames, hs]
  rw [hs] at fl
  show wpAny _ _ (noteFrame (.ref a) (Bk X s3 H3 scope fp).env) _ _ s'
  rw [noteFrame_env (cenv := (Bk X s3 H3 scope fp).env) (env := X.env) _ rfl]
  refine HandSPX.looks_onZ Zc.steady hfr hf fl fun h2 hh up2 => ?_
  refine ⟨m, hC'.upToSlots up2, fun h3 m3 hn3 hs3 => ?_⟩
  have hC2 := hC'.upToSlots up2
  obtain ⟨b1, b0, f1, oe, vs, T, oT, ts, he, hz, hd, h1, hnT, hTe, hT, hdT, h3'⟩ := hh
  have neC : ∀ {b o ws}, h2.get? b = some o → o.data = .fields ws → b ≠ BkC s3 := fun e dd z => by
    obtain ⟨o', es, ep, e', d', _⟩ := hC2
    rw [z] at e
    rw [show h2.get? (BkC s3) = some o' from e'] at e
    cases e
    rw [dd] at d'
    cases d'
  have hh3 : HandSPX.HeldZ B (X.env :: X.outer) a (Zc cls d) X.env.locals h3 :=
    ⟨fun b o e => (hs3.2 b fun z => by rw [show b = BkC s3 from z, show B.get? (BkC s3) = none from bC] at e; cases e).trans (b1 b o e), b0, Heap.FunFrames.sameBut hs3 hn3 f1, oe, vs, T, oT, ts, (hs3.2 a (neC he hd)).trans he, hz, hd, h1, hnT, hTe, (hs3.2 T (neC hT hdT)).trans hT, hdT, h3'⟩
  unfold PySem.passOn
  refine wpAny_bind (wpAny_field ((hs3.2 a (neC he hd)).trans he) hd h1 ?_)
  rw [if_neg (show ¬ ((Value.ref T == Value.none) = true) from by simp)]
  have fin : wpAny (model X.prog X.w) X.A (setFlight (.ref a) X.env.frame) (fun _ s4 => wpAny (model X.prog X.w) X.A (throw (.ref a) : Sem Value) (fun _ _ => False) X.xe s4) X.xe { s' with heap := h3 } := by
    rw [hf]
    refine HandSPX.setFlight_onZ hh3 fun h4 hh4 up4 => wpAny_throw (tk _ _ ?_)
    refine ⟨a, B, sI, pins, σ, H', cls, d, rfl, I, nb, fun b o e hnf => ?_, .inr (.inr (by rw [hs]; exact hh4)), na, os, ag, hE⟩
    obtain ⟨sl1, e1⟩ := up b o e hnf
    obtain ⟨sl2, e2⟩ := up2 b _ e1 hnf
    have nb' : b ≠ BkC s3 := fun z => by rw [z, show sI.heap.get? (BkC s3) = none from sC] at e; cases e
    obtain ⟨sl3, e3⟩ := up4 b _ ((hs3.2 b nb').trans e2) hnf
    exact ⟨sl3, e3⟩
  first
    | exact wpAny_bind (wpAny_pure (wpAny_bind fin))
    | exact wpAny_bind fin
theorem lcX_told {s : Shared} {H : Hp} {Q : VK} {elt tg iter : Expr} {own : List (Str × Nat)} {pos pos' : Pos} {wi : TI} {g : TG} {te : TE} {use : Option (Value → Sem Unit)} {Qf : Value → Shared → Prop} (hc : X.calm = true) (hN : X.N.Nodup) (I : Inv X pins σ H s)
    (hsX : X.stack = X.env :: X.outer) (hfX : X.env.frame = some X.env.locals) (tk : Takes X (fun cls d _ H => E cls d H))
    (hi : PI X tg iter wi) (ok : BlkOk X.N X.env.scope scope own) (hg : ∀ (s : Shared) (H : Hp) (fp : List Addr), PG (Bk X s H scope fp) tg g) (he : ∀ (s : Shared) (H : Hp) (fp : List Addr), PE (BkR X s H scope fp E) elt te)
    (hs : ∀ x, foldedSetIterable iter X.env x = pure x) (h : tLc wi g tYes te (own.map (·.2)) σ H Q)
    (end_ : ∀ D C cenv s' m H', cenv.locals = C → Inv X pins σ H' s' → Q (.ref D) H' → s'.heap.Ns C m → FpOk X pins H' C → compEnds (model X.prog X.w) X.A X.xe use Qf (.ref D) cenv (.ok .next) s') :
    wpAny (model X.prog X.w) X.A (comprehension (.ListComp elt [⟨tg, iter, [], 0⟩] scope pos) scope X.env pos' (newList []) false (eval iter X.env) use) Qf X.xe s := by
  have caps : ∀ y ∈ scope.names, y.2 = .free → ∃ c, X.env.cells.lookup y.1 = some c := fun y hy e => (ok.free y hy e).elim (fun k => I.ok.has _ (.inl k)) fun k => I.ok.has _ (.inr k)
  refine comprehension_at (use := use) rfl hs (closure_ok caps) ok.kind (fun y hy e => by rw [ok.uniq y hy, e]) (thn (hi.run pins s σ H _ I h) fun xv s1 hx => thn hx fun itv s2 hit => ?_)
  obtain ⟨it, fp, tn, J, H2, rfl, I2, T, st2, f2, q⟩ := hit
  refine wpAny_newObj_type (newEnv_comp ?_) (by show 0 ≤ sizeLine; decide)
  have newD : H2 s2.heap.objs.size = none := I2.hok.fresh (Nat.le_refl _)
  obtain ⟨W, ⟨m0, w0⟩, turn⟩ := q s2.heap.objs.size newD
  generalize eH : upd H2 s2.heap.objs.size (.lst []) = H3 at w0
  generalize es : ({ s2 with heap := s2.heap.push { cls := .type "list", data := .seq ([] : List Value).toArray } } : Shared) = s3
  have hh : s3.heap = s2.heap.push { cls := .type "list", data := .seq ([] : List Value).toArray } := by rw [← es]
  have I3 : Inv X pins σ H3 s3 := by
    rw [← es, ← eH]
    exact I2.laid (t' := s2.toks) (fun b o e => Heap.get?_push_of_some _ e) (Nat.le_refl _) ⟨Nat.zero_le _, [], 0, .nil, Heap.get?_push_size _ rfl⟩
  have M : Marks X pins H3 s3 fp := fun b hb => by
    obtain ⟨o, e, _⟩ := T.obj _ _ st2 b hb
    have lt := Heap.lt_size e
    refine ⟨⟨?_, (f2 b hb).2⟩, by rw [hh, Heap.size_push]; exact Nat.lt_succ_of_lt lt⟩
    rw [← eH, upd_ne (Nat.ne_of_lt lt)]
    exact (f2 b hb).1
  have I4 := block_start I3 ok hN M
  have st3 : tn 0 s3.heap := T.keep _ _ _ st2 fun b _ o e => by rw [hh]; exact Heap.get?_push_of_some _ e
  show codeAny _ _ (.compStart (.ListComp elt [⟨tg, iter, [], 0⟩] scope pos) 0 (.ref it) (.ref s2.heap.objs.size) (Bk X s3 H3 scope fp).env) (compEnds (model X.prog X.w) X.A X.xe use Qf (.ref s2.heap.objs.size) (Bk X s3 H3 scope fp).env) { s3 with heap := pushCells (s3.heap.push { cls := .type "dict", data := .dict #[] }) scope.names }
  generalize e4 : ({ s3 with heap := pushCells (s3.heap.push { cls := .type "dict", data := .dict #[] }) scope.names } : Shared) = s4 at I4 ⊢
  have st4 : tn 0 s4.heap := T.keep _ _ _ st3 fun b _ o e => by rw [← e4]; exact pushCells_keeps _ _ _ _ (Heap.get?_push_of_some _ e)
  have bad : ∀ {e : Value} {s' : Shared}, (BkR X s3 H3 scope fp E).xe e s' → notedBy (model X.prog X.w) X.A (Bk X s3 H3 scope fp).env (fun e s' => compEnds (model X.prog X.w) X.A X.xe use Qf (.ref s2.heap.objs.size) (Bk X s3 H3 scope fp).env (.error e) s') e s' := fun x => by
    have z := blk_raises hsX hfX tk M I3 x
    cases use with
    | none => exact z
    | some u => exact z
  refine codeAny_compStart_list ?_ (T.self X.A 0 _ _ _ st4 ?_) <;>
  · refine compLoop_any (AtTurn X s3 H3 scope fp (own.map (·.2)) σ tn W) ?_ m0 ⟨0, H3, I4, st4, fun b hb => (M b hb).1.1, w0⟩
    rintro n s5 ⟨i, H5, I5, st5, n5, w5⟩
    rcases turn i n H5 w5 with ⟨stop, done⟩ | ⟨go, Nx, hNx, step⟩
    · refine thnF (T.done (Bk X s3 H3 scope fp) rfl rfl rfl hc i [] s5 _ H5 (fun _ _ => False) I5 (marks_in I5 n5) st5 stop) fun r s6 ⟨hr, I6⟩ => ?_
      subst hr
      obtain ⟨m, hn, _⟩ := I6.loc
      exact end_ _ _ _ s6 m H5 rfl (M.out I3 I6) done hn (I3.fpOk (Nat.le_refl _) I6.free)
    · refine thnF (T.item (Bk X s3 H3 scope fp) rfl rfl rfl hc i [] s5 _ H5 (fun _ _ => False) I5 (marks_in I5 n5) st5 go) fun r s6 ⟨u, hr, h6⟩ => ?_
      subst hr
      refine thnF h6 fun _ s7 ⟨x, H7, I7, r7, y7, st7, n7⟩ => ?_
      refine thnF ((hg s3 H3 fp).run _ s7 _ H7 x u _ (I7.pinned (marks_in I7 n7) (T.obj _ _ st7)) r7 (step x H7 y7)) fun _ s8 ⟨σ8, H8, I8, hw, q8⟩ => ?_
      refine wpAny_tests_nil ?_
      have q8 : te σ8 H8 fun y H4 => ∃ acc, H4 s2.heap.objs.size = some (.lst acc) ∧ acc.length < sizeLine ∧ Nx (upd H4 s2.heap.objs.size (.lst (acc ++ [y]))) := q8
      rw [if_pos rfl]
      refine wpAny_mono ((he s3 H3 fp).run _ s8 σ8 H8 _ (inv_wish I8) q8) (fun z s9 ⟨yv, H9, I9', r9, acc, hD, hz, nx⟩ => ?_) (fun e s9 x => bad x)
      have I9 := inv_unwish I9'
      refine app_ok (X := Bk X s3 H3 scope fp) I9 hD hz r9 fun s' K => ?_
      obtain ⟨m', hm, w'⟩ := hNx _ nx
      exact at_next T st7 K hw hm w'
theorem pe_lcX {elt tg iter : Expr} {own : List (Str × Nat)} {pos : Pos} {wi : TI} {g : TG} {te : TE} (hc : X.calm = true) (hN : X.N.Nodup) (hsX : X.stack = X.env :: X.outer) (hfX : X.env.frame = some X.env.locals) (tk : Takes X (fun cls d _ H => E cls d H)) (hi : PI X tg iter wi) (ok : BlkOk X.N X.env.scope scope own)
    (hg : ∀ (s : Shared) (H : Hp) (fp : List Addr), PG (Bk X s H scope fp) tg g) (he : ∀ (s : Shared) (H : Hp) (fp : List Addr), PE (BkR X s H scope fp E) elt te) (hs : ∀ x, foldedSetIterable iter X.env x = pure x := by intro _; rfl) :
    PE X (.ListComp elt [⟨tg, iter, [], 0⟩] scope pos) (tLc wi g tYes te (own.map (·.2))) := by
  refine ⟨fun pins s σ H Q I h => ?_⟩
  rw [eval_ListComp]
  exact lcX_told hc hN I hsX hfX tk hi ok hg he hs h fun D C cenv s' m H' ec K q hn f => ⟨m, by rw [ec]; exact hn, fun h'' sb => ⟨.ref D, H', K.turned (t' := s'.toks) (fun b o hb e => (sb.2 b (by rw [ec]; exact hb)).trans e) f.1 f.2.1 f.2.2.2.1 f.2.2.2.2.1 f.2.2.2.2.2, rfl, q⟩⟩
/-- name = [..] on one line, the name a local -/
theorem ps_setLcX {i : Nat} {y : Str} {py : Pos} {elt tg iter : Expr} {own : List (Str × Nat)} {pos spos : Pos} {wi : TI} {g : TG} {te : TE} (hc : X.calm = true) (hN : X.N.Nodup) (hy : X.N[i]? = some y) (hyl : X.env.scope.names.lookup y = some .local)
    (hsw : swapsWith (.ListComp elt [⟨tg, iter, [], 0⟩] scope pos) (some (.Name y py)) spos.line X.env = pure true) (hsX : X.stack = X.env :: X.outer) (hfX : X.env.frame = some X.env.locals) (tk : Takes X (fun cls d _ H => E cls d H)) (hi : PI X tg iter wi) (ok : BlkOk X.N X.env.scope scope own)
    (hg : ∀ (s : Shared) (H : Hp) (fp : List Addr), PG (Bk X s H scope fp) tg g) (he : ∀ (s : Shared) (H : Hp) (fp : List Addr), PE (BkR X s H scope fp E) elt te) (hs : ∀ x, foldedSetIterable iter X.env x = pure x := by intro _; rfl) :
    PS X (.Assign [.Name y py] (.ListComp elt [⟨tg, iter, [], 0⟩] scope pos) spos) (tAsg (tLc wi g tYes te (own.map (·.2))) (gName i)) := by
  refine ⟨fun pins s σ H D I h => ?_⟩
  rw [exec_Assign_Name_used _ _ _ _ hsw]
  refine wpAny_bind (wpAny_standAt (wpAny_bind ?_))
  show wpAny _ X.A (do let _ ← comprehension (.ListComp elt [⟨tg, iter, [], 0⟩] scope pos) scope X.env (firstIterPos [⟨tg, iter, [], 0⟩] pos) (newList []) false (eval iter X.env) (some (assign (.Name y py) X.env))) _ _ s
  have h : tLc wi g tYes te (own.map (·.2)) σ H (fun x H1 => gName i x σ H1 D.nx) := h
  refine wpAny_bind (thn (lcX_told (Qf := fun _ s' => SP X pins D .next s') hc hN I hsX hfX tk hi ok hg he hs h fun L C cenv s' m H' ec I' q hn f => ?_) fun _ s' hq => wpAny_pure (wpAny_pure hq))
  show wpAny _ _ (assign (.Name y py) X.env (.ref L)) _ _ _
  refine wpAny_assign_Name (store_ok2 (v := V.ref L) I' hN hy (.inl hyl) rfl (fun s2 I2 ⟨a, sb, ha⟩ => ?_) (.inr hyl))
  obtain ⟨f0, f1, f2, f3, f4, f5⟩ := f
  have haC : C ≠ a := by
    rcases ha with z | z
    · rw [z]; exact f1
    · exact fun e => f4 y a z e.symm
  refine ⟨m, by rw [ec]; exact hn.sameBut sb haC, fun h3 sb3 => ?_⟩
  exact ⟨_, H', I2.turned (t' := s2.toks) (fun b o hb e => (sb3.2 b (by rw [ec]; exact hb)).trans e) f0 f1 f3 f4 f5, q⟩
end
end Px

/-! PxRead: what reading wants: a list that is extended, int(text, 16) -/
namespace Px
open PySem PySem.Spec PyProof.Rows L2
theorem ip_ext {X : Cx} : PIp X .Add rExt2 := fun pins s σ H x y v u Q I rx ry h => iop_ext pins s σ H x y v u Q I rx ry h
theorem r_ext {l b : Addr} {xs zs : List V} {H : Hp} {P : V → Hp → Prop} (h1 : H l = some (.lst xs)) (h2 : H b = some (.lst zs)) (h3 : xs.length + zs.length ≤ sizeLine) (h : P (.ref l) (upd H l (.lst (xs ++ zs)))) : rExt2 (.ref l) (.ref b) H P := ⟨l, b, xs, zs, rfl, rfl, h1, h2, h3, h⟩
theorem r_intHex {l : List Nat} {H : Hp} {Q : VK} (h1 : l ≠ []) (h2 : l.length ≤ 640) (h3 : ∀ c ∈ l, Hx.IsHex c) (h : Q (.int ((Hx.hexNum l : Nat) : Int)) H) : rIntHex [.str (SX.S l), .int 16] H Q := ⟨l, rfl, h1, h2, h3, h⟩
end Px

/-! PxKw: keyword-only parameters that lack in the middle -/
namespace Px
open PySem PySem.Spec PyProof.Rows L2
theorem vals_take : ∀ (n : Nat) {vs : List V} {us : List Value}, Vals vs us → Vals (vs.take n) (us.take n)
  | 0, _, _, _ => .nil
  | _ + 1, [], [], _ => .nil
  | n + 1, _ :: _, _ :: _, .cons h t => .cons h (vals_take n t)
theorem vals_drop : ∀ (n : Nat) {vs : List V} {us : List Value}, Vals vs us → Vals (vs.drop n) (us.drop n)
  | 0, _, _, h => h
  | _ + 1, [], [], _ => .nil
  | n + 1, _ :: _, _ :: _, .cons _ t => vals_drop n t
end Px

namespace Px
open PySem PySem.Spec PyProof.Rows L2
/-! ### text * number, many times -/
def rMulW : R2 := fun x y H Q => ∃ (a : Str) (n : Nat), x = .str a ∧ y = .int n ∧ a.length ≤ 1000 ∧ n ≤ 1000000 ∧ a.length * n ≤ sizeLine ∧ Q (.str (strRep a n)) H
theorem op_mulW {X : Cx} : OpR X (binaryOp .Mult) rMulW := by
  intro pins s σ H x y v u Q I rx ry h
  obtain ⟨a, n, rfl, rfl, ha, hn, hz, q⟩ := h
  obtain ⟨t, rfl⟩ := rx
  obtain ⟨t2, rfl⟩ := ry
  have dv : 1000 ≤ (2 ^ 63 - 1 : Int) / (1000 : Int) := by decide
  refine PySem.P.mul_str (by
    rw [decide_eq_false (by omega), decide_eq_false (by omega)]; rfl) (fun h1 _ z => ?_) (fun h1 _ => ?_) ?_
  · have h3 : (1000 : Int) ≤ (2 ^ 63 - 1) / (n : Int) := (Int.le_ediv_iff_mul_le (by omega)).mpr (by omega)
    omega
  · unfold Builtin.Str.tooLong
    rw [Int.toNat_natCast]
    refine decide_eq_false ?_
    omega
  by_cases h1 : (n : Int) < 1
  · rw [if_pos h1]
    have e : n = 0 := by omega
    subst e
    exact ⟨by decide, ⟨.str (strRep a 0), H, I.tok _, ⟨_, rfl⟩, q⟩⟩
  · rw [if_neg h1]
    by_cases h2 : ((n : Int) == 1 || a.length == 0) = true
    · rw [if_pos h2]
      have e : strRep a n = a := by
        unfold strRep
        rcases Bool.or_eq_true_iff.mp h2 with z | z
        · have z := beq_iff_eq.mp z
          have : n = 1 := by omega
          subst this
          simp
        · have z : a.cps.size = 0 := beq_iff_eq.mp z
          have : a.cps = #[] := Array.eq_empty_of_size_eq_zero z
          have e2 : a = ⟨#[]⟩ := by
            show a = _
            rw [← this]
          rw [e2]
          simp
      rw [e] at q
      exact ⟨.str a, H, I, ⟨_, rfl⟩, q⟩
    · rw [if_neg h2]
      have e : (⟨(List.replicate (Int.toNat n) a.cps).foldl (· ++ ·) #[]⟩ : Str) = strRep a n := by
        rw [rep_fold, Int.toNat_natCast]
        unfold strRep
        simp
      rw [e]
      refine ⟨?_, ⟨.str (strRep a n), H, I.tok _, ⟨_, rfl⟩, q⟩⟩
      unfold strRep
      show (List.replicate n a.cps.toList).flatten.toArray.size ≤ sizeLine
      have : a.cps.toList.length = a.length := Array.length_toList
      simp only [List.size_toArray, List.length_flatten, List.map_replicate, List.sum_replicate_nat]
      rw [this, Nat.mul_comm]
      exact hz
end Px

namespace Px
open PySem PySem.Spec PyProof.Rows L2
/-! ### s.rfind(t): where a sign stands last -/
abbrev rRfind : V → List V → Hp → VK → Prop := fun x xs H Q => ∃ a b, x = .str a ∧ xs = [.str b] ∧ Q (.int (Txt.rfind a b)) H
theorem mt_rfindU {X : Cx} : MtR X "str.rfind" rRfind := mt_rfind
theorem rfind_spec (x : Str) (c : Nat) : (Txt.rfind x ⟨#[c]⟩ = -1 ∧ ∀ i : Nat, x.cps.toList[i]? ≠ some c) ∨ ∃ i : Nat, Txt.rfind x ⟨#[c]⟩ = (i : Int) ∧ x.cps.toList[i]? = some c ∧ ∀ k : Nat, i < k → x.cps.toList[k]? ≠ some c := by
  unfold Txt.rfind
  rcases PySem.StrLaws.last_spec x ⟨#[c]⟩ with ⟨e, h⟩ | ⟨i, e, h1, h2⟩
  · rw [e]
    exact .inl ⟨rfl, fun i z => h i ((PySem.StrLaws.subAt_one x c i).mpr z)⟩
  · rw [e]
    exact .inr ⟨i, rfl, (PySem.StrLaws.subAt_one x c i).mp h1, fun k hk z => h2 k hk ((PySem.StrLaws.subAt_one x c k).mpr z)⟩
end Px

/-! rows of signs, over lists of numbers -/
namespace KR
/-- rows with a line feed between -/
def jn : List (List Nat) → List Nat
  | [] => []
  | [x] => x
  | x :: y :: r => x ++ 10 :: jn (y :: r)
theorem jn_cons {x : List Nat} {r : List (List Nat)} (h : r ≠ []) : jn (x :: r) = x ++ 10 :: jn r := by
  match r, h with
  | y :: r, _ => rfl
def Free (l : List Nat) : Prop := ∀ c ∈ l, c ≠ 10
theorem cut_first : ∀ {a b s t : List Nat}, Free a → Free b → a ++ 10 :: s = b ++ 10 :: t → a = b ∧ s = t
  | [], [], s, t, _, _, h => ⟨rfl, (List.cons.inj h).2⟩
  | [], y :: b, s, t, _, hb, h => absurd (List.cons.inj h).1.symm (hb y (List.mem_cons_self ..))
  | x :: a, [], s, t, ha, _, h => absurd (List.cons.inj h).1 (ha x (List.mem_cons_self ..))
  | x :: a, y :: b, s, t, ha, hb, h => by
    obtain ⟨h1, h2⟩ := List.cons.inj h
    obtain ⟨h3, h4⟩ := cut_first (fun c hc => ha c (List.mem_cons_of_mem _ hc)) (fun c hc => hb c (List.mem_cons_of_mem _ hc)) h2
    exact ⟨by rw [h1, h3], h4⟩
theorem no_cut {a b t : List Nat} (ha : Free a) (h : a = b ++ 10 :: t) : False := ha 10 (by rw [h]; simp) rfl
theorem jn_inj : ∀ {p q : List (List Nat)}, p ≠ [] → q ≠ [] → (∀ x ∈ p, Free x) → (∀ x ∈ q, Free x) → jn p = jn q → p = q
  | [x], [y], _, _, _, _, h => by
    have e : x = y := h
    rw [e]
  | [x], y :: z :: r, _, _, hp, _, h => (no_cut (hp x (List.mem_cons_self ..)) (show x = y ++ 10 :: jn (z :: r) from h)).elim
  | x :: z :: r, [y], _, _, _, hq, h => (no_cut (hq y (List.mem_cons_self ..)) (show y = x ++ 10 :: jn (z :: r) from h.symm)).elim
  | x :: x2 :: r, y :: y2 :: t, _, _, hp, hq, h => by
    obtain ⟨h1, h2⟩ := cut_first (hp x (List.mem_cons_self ..)) (hq y (List.mem_cons_self ..)) (show x ++ 10 :: jn (x2 :: r) = y ++ 10 :: jn (y2 :: t) from h)
    have ih := jn_inj (p := x2 :: r) (q := y2 :: t) (by simp) (by simp) (fun z hz => hp z (List.mem_cons_of_mem _ hz)) (fun z hz => hq z (List.mem_cons_of_mem _ hz)) h2
    rw [h1, ih]
  | [], _, h, _, _, _, _ => absurd rfl h
  | _ :: _, [], _, h, _, _, _ => absurd rfl h
theorem count_jn : ∀ {p : List (List Nat)}, p ≠ [] → (jn p).count 10 + 1 = p.length + p.flatten.count 10
  | [x], _ => by simp [jn]; omega
  | x :: y :: r, _ => by
    have ih := count_jn (p := y :: r) (by simp)
    rw [jn_cons (by simp), List.count_append, List.count_cons_self, List.flatten_cons, List.count_append]
    simp only [List.length_cons] at ih ⊢
    omega
  | [], h => absurd rfl h
theorem free_of {p : List (List Nat)} (h : p ≠ []) (e : p.length = (jn p).count 10 + 1) : ∀ x ∈ p, Free x := by
  have c := count_jn h
  have z : p.flatten.count 10 = 0 := by omega
  intro x hx c hc e10
  rw [e10] at hc
  exact (List.count_eq_zero.mp z) (List.mem_flatten.mpr ⟨x, hx, hc⟩)
theorem rows_num {n w r l : Nat} (hw : 0 < w) (h : n = w * r + l) (h1 : 1 ≤ l) (h2 : l ≤ w) : r + 1 = (n + w - 1) / w := by
  subst h
  have e : w * r + l + w - 1 = (l - 1) + w * (r + 1) := by rw [Nat.mul_add, Nat.mul_one]; omega
  rw [e, Nat.add_mul_div_left _ _ hw, Nat.div_eq_of_lt (by omega), Nat.zero_add]
theorem flat_len {w : Nat} : ∀ {p : List (List Nat)}, (∀ x ∈ p, x.length = w) → p.flatten.length = w * p.length
  | [], _ => rfl
  | x :: r, h => by
    rw [List.flatten_cons, List.length_append, h x (List.mem_cons_self ..), flat_len fun y hy => h y (List.mem_cons_of_mem _ hy), List.length_cons, Nat.mul_add, Nat.mul_one, Nat.add_comm]
end KR

namespace Px
open PySem PySem.Spec PyProof.Rows L2
local macro_rules | `(tactic| walk_at "ne") => `(tactic| first
  | assumption
  | (refine Ne.symm ?_; assumption)
  | (refine ne_of_none (H := ?xH) (o := ?xo) ?xa ?xb; (case xb => assumption); (case xa => walk_at "hp"))
  | (refine Ne.symm (ne_of_none (H := ?xH) (o := ?xo) ?xa ?xb); (case xb => assumption); (case xa => walk_at "hp"))
  | ((refine ne_of (H := ?xH) (o := ?xo) (u := ?xu) ?xa ?xb ?xc); (case xa => walk_at "hp"); (case xb => walk_at "hp"); (case xc => (intro z; cases z))))
local macro_rules | `(tactic| walk_at "hp") => `(tactic| first
  | assumption
  | ((refine gs (H := ?xH) ?xa ?xb); (case xa => assumption); (case xb => walk_at "hp"))
  | ((refine gb (b := ?xB) (H := ?xH) ?xa ?xc ?xb); (case xa => assumption); (case xb => walk_at "hp"); (case xc => walk_at "ne"))
  | exact upd_same
  | ((refine gu ?xa ?xb); (case xb => walk_at "hp"); (case xa => walk_at "ne")))
local macro_rules | `(tactic| walk_at "hl") => `(tactic| first
  | assumption
  | (refine ql ?_; walk_at "hp")
  | ((refine gsl (H := ?xH) ?xa ?xb); (case xa => assumption); (case xb => walk_at "hl"))
  | ((refine gbl (b := ?xB) (H := ?xH) ?xa ?xc ?xb); (case xa => assumption); (case xb => walk_at "hl"); (case xc => walk_at "ne")))
local macro_rules | `(tactic| walk_at "ht") => `(tactic| first
  | assumption
  | (refine qt ?_; walk_at "hp")
  | ((refine gst (H := ?xH) ?xa ?xb); (case xa => assumption); (case xb => walk_at "ht"))
  | ((refine gbt (b := ?xB) (H := ?xH) ?xa ?xc ?xb); (case xa => assumption); (case xb => walk_at "ht"); (case xc => walk_at "ne")))
local macro_rules | `(tactic| walk_at "hq") => `(tactic| first
  | assumption
  | ((refine IsQ.same (H := ?xH) ?xb ?xa); (case xa => assumption); (case xb => walk_at "hq")))
local macro_rules | `(tactic| walk_at "sz") => `(tactic| first
  | (show _ ≤ sizeLine; decide)
  | (refine small_line ?_; (simp only [List.length_map, List.length_append, List.length_cons, List.length_nil] at *); omega))
local macro_rules | `(tactic| walk_at "rd0") => `(tactic| first
  | (with_reducible refine r_yes ?_)
  | ((with_reducible refine r_listL (xs := ?xs) ?x1 ?_); (case x1 => walk_at "hl"))
  | (with_reducible refine r_nx ?_)
  | (with_reducible refine r_rt ?_)
  | (with_reducible refine r_bk ?_)
  | (with_reducible refine r_ct ?_)
  | ((with_reducible refine r_isiT (xs := ?xs) ?x1 ?_); (case x1 => walk_at "hp"))
  | (with_reducible refine r_bm ?_)
  | (with_reducible refine r_for ?_)
  | (with_reducible refine r_lc ?_)
  | (with_reducible refine r_asg ?_)
  | ((with_reducible refine r_var (v := ?xv) ?x1 ?_); (case x1 => rfl))
  | (with_reducible refine r_c ?_)
  | (with_reducible refine r_op ?_)
  | (with_reducible refine r_cons ?_)
  | (with_reducible refine r_nil ?_)
  | (with_reducible refine r_gname ?_)
  | (with_reducible refine r_I0 ?_)
  | (with_reducible refine r_addUI ?_)
  | (with_reducible refine r_eqUI ?_)
  | (with_reducible refine r_neUI ?_)
  | (with_reducible refine r_eqUS ?_)
  | (with_reducible refine r_neUS ?_)
  | (with_reducible refine r_eqUB ?_)
  | (with_reducible refine r_test ?_)
  | (with_reducible refine r_bl ?_)
  | (with_reducible refine r_int ?_)
  | (with_reducible refine r_ifs ?_)
  | (with_reducible refine r_ret ?_)
  | (with_reducible refine r_next ?_)
  | (with_reducible refine r_call ?_)
  | (with_reducible refine r_cb ?_)
  | (with_reducible refine r_tup ?_)
  | (with_reducible refine r_lst ?_)
  | (with_reducible refine r_gsub ?_)
  | ((with_reducible refine r_setL (xs := ?xs) (j := ?xj) ?x1 ?x2 ?_); (case x1 => walk_at "hp"); (case x2 => rfl))
  | ((with_reducible refine r_ixL (xs := ?xs) (v := ?xv) ?x1 ?x2 ?_); (case x1 => walk_at "hl"); (case x2 => first | rfl | assumption))
  | ((with_reducible refine r_ixT (xs := ?xs) (v := ?xv) ?x1 ?x2 ?_); (case x1 => walk_at "ht"); (case x2 => first | rfl | assumption))
  | (with_reducible refine r_gcons ?_)
  | (with_reducible refine r_gnil ?_)
  | ((with_reducible refine r_gtup (xs := ?xs) ?x1 ?x2 ?_); (case x1 => walk_at "ht"); (case x2 => rfl))
  | ((with_reducible refine r_aug (x := ?xv) ?x1 ?_); (case x1 => rfl))
  | (with_reducible refine r_iaddI ?_)
  | (with_reducible refine r_par ?_)
  | (with_reducible refine r_two ?_)
  | (with_reducible refine r_un ?_)
  | (with_reducible refine r_if ?_)
  | (with_reducible refine r_b ?_)
  | (with_reducible refine r_and ?_)
  | (with_reducible refine r_or ?_)
  | (with_reducible refine r_not ?_)
  | (with_reducible refine r_andV ?_)
  | (with_reducible refine r_orV ?_)
  | (with_reducible refine r_notV ?_)
  | (with_reducible refine r_chain ?_)
  | (with_reducible refine r_chain3 ?_)
  | (with_reducible refine r_drop ?_)
  | (with_reducible refine r_retN ?_)
  | (with_reducible refine r_brk ?_)
  | (with_reducible refine r_cont ?_)
  | (with_reducible refine r_iteT ?_)
  | (with_reducible refine r_iteNT ?_)
  | (with_reducible refine r_iteNF ?_)
  | (with_reducible refine r_iteF ?_)
  | (with_reducible refine r_sl ?_)
  | (with_reducible refine r_noPart ?_)
  | (with_reducible refine r_part ?_)
  | (with_reducible refine r_abs ?_)
  | (with_reducible refine r_max2 ?_)
  | (with_reducible refine r_min2 ?_)
  | ((with_reducible refine q_len (k := ?xk) (xs := ?xs) ?x1 ?_); (case x1 => walk_at "hq"))
  | ((with_reducible refine r_lenUL (xs := ?xs) ?x1 ?_); (case x1 => walk_at "hl"))
  | ((with_reducible refine r_lenUT (xs := ?xs) ?x1 ?_); (case x1 => walk_at "ht"))
  | ((with_reducible refine r_mulUI ?x1 ?_); (case x1 => first | exact .inl ⟨by decide, by decide⟩ | exact .inr ⟨by decide, by decide⟩ | exact .inl ⟨by omega, by omega⟩ | exact .inr ⟨by omega, by omega⟩))
  | (with_reducible refine r_rng1 ?_)
  | ((with_reducible refine r_I ?x1 ?_); (case x1 => first | decide | (show _ ∧ _; exact ⟨by omega, by omega⟩) | (show _ ≠ _; omega) | (show _ ∧ _ ∧ _; exact ⟨by decide, by decide, by omega⟩))))
local macro_rules | `(tactic| walk_at "rd1") => `(tactic| first | (with_reducible refine r_seq ?_) | walk_at "rd0")
local macro_rules | `(tactic| walk_at "rx") => `(tactic| repeat walk_at "rd0")
local macro_rules | `(tactic| walk_at "rd") => `(tactic| repeat walk_at "rd1")
set_option hygiene false in
local macro_rules | `(tactic| walk_at "new") => `(tactic| (refine And.intro (by walk_at "sz") ?_; intro p np; generalize hg : upd _ p _ = Hn; have hs := same_of hg np; have hv := at_of hg; clear hg))
set_option hygiene false in
local macro_rules | `(tactic| walk_at "newp") => `(tactic| (intro p np; generalize hg : upd _ p _ = Hn; have hs := same_of hg np; have hv := at_of hg; clear hg))

structure Txt (K : PySem.W.Frag) (mg : Str → Option Value) : Type where
  C_Rules : Addr
  C_Rules_g : mg "Rules" = some (.ref C_Rules)
  C_Rules_c : Cls K C_Rules
  C_Code : Addr
  C_Code_g : mg "Code" = some (.ref C_Code)
  C_Code_c : Cls K C_Code
  X_NoCharacter : Addr
  X_NoCharacter_f : Addr
  X_NoCharacter_F : ErrG K eN_NoCharacter X_NoCharacter X_NoCharacter_f
  X_NoCharacter_g : mg "NoCharacter" = some (.ref X_NoCharacter)
  C_Rules_is : InsC K C_Rules
  is_integer_a : Addr
  is_integer_d : FuncData
  is_integer_f : FunD K "is_integer" "is_integer" (defArgs s_is_integer) (defBody s_is_integer) (defScope s_is_integer) [] [] is_integer_a is_integer_d
  is_integer_g : mg "is_integer" = some (.ref is_integer_a)
  is_integer_b : Binds K is_integer_d ["value"] []
  is_within_a : Addr
  is_within_d : FuncData
  is_within_f : FunD K "is_within" "is_within" (defArgs s_is_within) (defBody s_is_within) (defScope s_is_within) [] [] is_within_a is_within_d
  is_within_g : mg "is_within" = some (.ref is_within_a)
  is_within_b : Binds K is_within_d ["value", "low", "high"] []
  is_sign_a : Addr
  is_sign_d : FuncData
  is_sign_f : FunD K "is_sign" "is_sign" (defArgs s_is_sign) (defBody s_is_sign) (defScope s_is_sign) [] [] is_sign_a is_sign_d
  is_sign_g : mg "is_sign" = some (.ref is_sign_a)
  is_sign_b : Binds K is_sign_d ["value"] []
  are_signs_a : Addr
  are_signs_d : FuncData
  are_signs_f : FunD K "are_signs" "are_signs" (defArgs s_are_signs) (defBody s_are_signs) (defScope s_are_signs) [] [] are_signs_a are_signs_d
  are_signs_g : mg "are_signs" = some (.ref are_signs_a)
  are_signs_b : Binds K are_signs_d ["value"] []
  are_characters_a : Addr
  are_characters_d : FuncData
  are_characters_f : FunD K "are_characters" "are_characters" (defArgs s_are_characters) (defBody s_are_characters) (defScope s_are_characters) [] [] are_characters_a are_characters_d
  are_characters_g : mg "are_characters" = some (.ref are_characters_a)
  are_characters_b : Binds K are_characters_d ["value"] []
  check_text_a : Addr
  check_text_d : FuncData
  check_text_f : FunD K "check_text" "check_text" (defArgs s_check_text) (defBody s_check_text) (defScope s_check_text) [] [] check_text_a check_text_d
  check_text_g : mg "check_text" = some (.ref check_text_a)
  check_text_b : Binds K check_text_d ["value"] []
  other_case_a : Addr
  other_case_d : FuncData
  other_case_f : FunD K "other_case" "other_case" (defArgs s_other_case) (defBody s_other_case) (defScope s_other_case) [] [] other_case_a other_case_d
  other_case_g : mg "other_case" = some (.ref other_case_a)
  other_case_b : Binds K other_case_d ["letter"] []
  is_option_a : Addr
  is_option_d : FuncData
  is_option_f : FunD K "is_option" "is_option" (defArgs s_is_option) (defBody s_is_option) (defScope s_is_option) [] [] is_option_a is_option_d
  is_option_g : mg "is_option" = some (.ref is_option_a)
  is_option_b : Binds K is_option_d ["name", "value"] []
  Rules___init___a : Addr
  Rules___init___d : FuncData
  Rules___init___f : FunD K "__init__" "Rules.__init__" (defArgs s_Rules___init__) (defBody s_Rules___init__) (defScope s_Rules___init__) [] [("pads", .str (Str.ofString "full")), ("skip", .str (Str.ofString "")), ("lines", .bl true), ("loose", .bl false), ("fold", .bl false)] Rules___init___a Rules___init___d
  C_Rules_m : Mk K C_Rules Rules___init___a
  Rules_pads_a : Addr
  Rules_pads_d : FuncData
  Rules_pads_f : FunD K "pads" "Rules.pads" (defArgs s_Rules_pads) (defBody s_Rules_pads) (defScope s_Rules_pads) [] [] Rules_pads_a Rules_pads_d
  Rules_pads_q : Addr
  Rules_pads_p : PropOf K C_Rules "pads" Rules_pads_q Rules_pads_a
  Rules_pads_b : Binds K Rules_pads_d ["self"] []
  Rules_skip_a : Addr
  Rules_skip_d : FuncData
  Rules_skip_f : FunD K "skip" "Rules.skip" (defArgs s_Rules_skip) (defBody s_Rules_skip) (defScope s_Rules_skip) [] [] Rules_skip_a Rules_skip_d
  Rules_skip_q : Addr
  Rules_skip_p : PropOf K C_Rules "skip" Rules_skip_q Rules_skip_a
  Rules_skip_b : Binds K Rules_skip_d ["self"] []
  Rules_lines_a : Addr
  Rules_lines_d : FuncData
  Rules_lines_f : FunD K "lines" "Rules.lines" (defArgs s_Rules_lines) (defBody s_Rules_lines) (defScope s_Rules_lines) [] [] Rules_lines_a Rules_lines_d
  Rules_lines_q : Addr
  Rules_lines_p : PropOf K C_Rules "lines" Rules_lines_q Rules_lines_a
  Rules_lines_b : Binds K Rules_lines_d ["self"] []
  Rules_loose_a : Addr
  Rules_loose_d : FuncData
  Rules_loose_f : FunD K "loose" "Rules.loose" (defArgs s_Rules_loose) (defBody s_Rules_loose) (defScope s_Rules_loose) [] [] Rules_loose_a Rules_loose_d
  Rules_loose_q : Addr
  Rules_loose_p : PropOf K C_Rules "loose" Rules_loose_q Rules_loose_a
  Rules_loose_b : Binds K Rules_loose_d ["self"] []
  Rules_fold_a : Addr
  Rules_fold_d : FuncData
  Rules_fold_f : FunD K "fold" "Rules.fold" (defArgs s_Rules_fold) (defBody s_Rules_fold) (defScope s_Rules_fold) [] [] Rules_fold_a Rules_fold_d
  Rules_fold_q : Addr
  Rules_fold_p : PropOf K C_Rules "fold" Rules_fold_q Rules_fold_a
  Rules_fold_b : Binds K Rules_fold_d ["self"] []
  Code_signs_a : Addr
  Code_signs_d : FuncData
  Code_signs_f : FunD K "signs" "Code.signs" (defArgs s_Code_signs) (defBody s_Code_signs) (defScope s_Code_signs) [] [] Code_signs_a Code_signs_d
  Code_signs_q : Addr
  Code_signs_p : PropOf K C_Code "signs" Code_signs_q Code_signs_a
  Code_signs_b : Binds K Code_signs_d ["self"] []
  Code_pad_a : Addr
  Code_pad_d : FuncData
  Code_pad_f : FunD K "pad" "Code.pad" (defArgs s_Code_pad) (defBody s_Code_pad) (defScope s_Code_pad) [] [] Code_pad_a Code_pad_d
  Code_pad_q : Addr
  Code_pad_p : PropOf K C_Code "pad" Code_pad_q Code_pad_a
  Code_pad_b : Binds K Code_pad_d ["self"] []
  Code_width_a : Addr
  Code_width_d : FuncData
  Code_width_f : FunD K "width" "Code.width" (defArgs s_Code_width) (defBody s_Code_width) (defScope s_Code_width) [] [] Code_width_a Code_width_d
  Code_width_q : Addr
  Code_width_p : PropOf K C_Code "width" Code_width_q Code_width_a
  Code_width_b : Binds K Code_width_d ["self"] []
  Code_bits_a : Addr
  Code_bits_d : FuncData
  Code_bits_f : FunD K "bits" "Code.bits" (defArgs s_Code_bits) (defBody s_Code_bits) (defScope s_Code_bits) [] [] Code_bits_a Code_bits_d
  Code_bits_q : Addr
  Code_bits_p : PropOf K C_Code "bits" Code_bits_q Code_bits_a
  Code_bits_b : Binds K Code_bits_d ["self"] []
  Code_group_a : Addr
  Code_group_d : FuncData
  Code_group_f : FunD K "group" "Code.group" (defArgs s_Code_group) (defBody s_Code_group) (defScope s_Code_group) [] [] Code_group_a Code_group_d
  Code_group_q : Addr
  Code_group_p : PropOf K C_Code "group" Code_group_q Code_group_a
  Code_group_b : Binds K Code_group_d ["self"] []
  Code___contains___a : Addr
  Code___contains___d : FuncData
  Code___contains___f : FunD K "__contains__" "Code.__contains__" (defArgs s_Code___contains__) (defBody s_Code___contains__) (defScope s_Code___contains__) [] [] Code___contains___a Code___contains___d
  Code___contains___m : Meth K C_Code "__contains__" Code___contains___a
  Code___contains___b : Binds K Code___contains___d ["self", "value"] []
  Code___init___a : Addr
  Code___init___d : FuncData
  Code___init___f : FunD K "__init__" "Code.__init__" (defArgs s_Code___init__) (defBody s_Code___init__) (defScope s_Code___init__) [] [("pad", .str (Str.ofString "")), ("width", .int 0)] Code___init___a Code___init___d
  C_Code_m : Mk K C_Code Code___init___a
  Code_has_rows_a : Addr
  Code_has_rows_d : FuncData
  Code_has_rows_f : FunD K "has_rows" "Code.has_rows" (defArgs s_Code_has_rows) (defBody s_Code_has_rows) (defScope s_Code_has_rows) [] [] Code_has_rows_a Code_has_rows_d
  Code_has_rows_m : Meth K C_Code "has_rows" Code_has_rows_a
  Code_has_rows_b : Binds K Code_has_rows_d ["self", "rules"] []
  Code_is_foreign_a : Addr
  Code_is_foreign_d : FuncData
  Code_is_foreign_f : FunD K "is_foreign" "Code.is_foreign" (defArgs s_Code_is_foreign) (defBody s_Code_is_foreign) (defScope s_Code_is_foreign) [] [] Code_is_foreign_a Code_is_foreign_d
  Code_is_foreign_m : Meth K C_Code "is_foreign" Code_is_foreign_a
  Code_is_foreign_b : Binds K Code_is_foreign_d ["self", "rules", "character"] []
  Code_suits_a : Addr
  Code_suits_d : FuncData
  Code_suits_f : FunD K "suits" "Code.suits" (defArgs s_Code_suits) (defBody s_Code_suits) (defScope s_Code_suits) [] [] Code_suits_a Code_suits_d
  Code_suits_m : Meth K C_Code "suits" Code_suits_a
  Code_suits_b : Binds K Code_suits_d ["self", "rules"] []
  Code_is_full_a : Addr
  Code_is_full_d : FuncData
  Code_is_full_f : FunD K "is_full" "Code.is_full" (defArgs s_Code_is_full) (defBody s_Code_is_full) (defScope s_Code_is_full) [] [] Code_is_full_a Code_is_full_d
  Code_is_full_m : Meth K C_Code "is_full" Code_is_full_a
  Code_is_full_b : Binds K Code_is_full_d ["self", "column"] []
  Code_next_column_a : Addr
  Code_next_column_d : FuncData
  Code_next_column_f : FunD K "next_column" "Code.next_column" (defArgs s_Code_next_column) (defBody s_Code_next_column) (defScope s_Code_next_column) [] [] Code_next_column_a Code_next_column_d
  Code_next_column_m : Meth K C_Code "next_column" Code_next_column_a
  Code_next_column_b : Binds K Code_next_column_d ["self", "column"] []
  Code_read_digit_a : Addr
  Code_read_digit_d : FuncData
  Code_read_digit_f : FunD K "read_digit" "Code.read_digit" (defArgs s_Code_read_digit) (defBody s_Code_read_digit) (defScope s_Code_read_digit) [] [] Code_read_digit_a Code_read_digit_d
  Code_read_digit_m : Meth K C_Code "read_digit" Code_read_digit_a
  Code_read_digit_b : Binds K Code_read_digit_d ["self", "rules", "character"] []
  Code_opening_a : Addr
  Code_opening_d : FuncData
  Code_opening_f : FunD K "opening" "Code.opening" (defArgs s_Code_opening) (defBody s_Code_opening) (defScope s_Code_opening) [] [] Code_opening_a Code_opening_d
  Code_opening_m : Meth K C_Code "opening" Code_opening_a
  Code_opening_b : Binds K Code_opening_d ["self"] []
  Code_is_whole_a : Addr
  Code_is_whole_d : FuncData
  Code_is_whole_f : FunD K "is_whole" "Code.is_whole" (defArgs s_Code_is_whole) (defBody s_Code_is_whole) (defScope s_Code_is_whole) [] [] Code_is_whole_a Code_is_whole_d
  Code_is_whole_m : Meth K C_Code "is_whole" Code_is_whole_a
  Code_is_whole_b : Binds K Code_is_whole_d ["self", "rules", "bits"] []
  Code_missing_pads_a : Addr
  Code_missing_pads_d : FuncData
  Code_missing_pads_f : FunD K "missing_pads" "Code.missing_pads" (defArgs s_Code_missing_pads) (defBody s_Code_missing_pads) (defScope s_Code_missing_pads) [] [] Code_missing_pads_a Code_missing_pads_d
  Code_missing_pads_m : Meth K C_Code "missing_pads" Code_missing_pads_a
  Code_missing_pads_b : Binds K Code_missing_pads_d ["self", "state"] []
  Code_may_pad_a : Addr
  Code_may_pad_d : FuncData
  Code_may_pad_f : FunD K "may_pad" "Code.may_pad" (defArgs s_Code_may_pad) (defBody s_Code_may_pad) (defScope s_Code_may_pad) [] [] Code_may_pad_a Code_may_pad_d
  Code_may_pad_m : Meth K C_Code "may_pad" Code_may_pad_a
  Code_may_pad_b : Binds K Code_may_pad_d ["self", "rules", "state"] []
  Code_may_end_a : Addr
  Code_may_end_d : FuncData
  Code_may_end_f : FunD K "may_end" "Code.may_end" (defArgs s_Code_may_end) (defBody s_Code_may_end) (defScope s_Code_may_end) [] [] Code_may_end_a Code_may_end_d
  Code_may_end_m : Meth K C_Code "may_end" Code_may_end_a
  Code_may_end_b : Binds K Code_may_end_d ["self", "rules", "state"] []
  Code_take_a : Addr
  Code_take_d : FuncData
  Code_take_f : FunD K "take" "Code.take" (defArgs s_Code_take) (defBody s_Code_take) (defScope s_Code_take) [] [] Code_take_a Code_take_d
  Code_take_m : Meth K C_Code "take" Code_take_a
  Code_take_b : Binds K Code_take_d ["self", "rules", "state", "character"] []
  Machine_whole_data_a : Addr
  Machine_whole_data_d : FuncData
  Machine_whole_data_f : FunD K "whole_data" "Machine.whole_data" (defArgs s_Machine_whole_data) (defBody s_Machine_whole_data) (defScope s_Machine_whole_data) [] [] Machine_whole_data_a Machine_whole_data_d
  Machine_whole_data_m : Meth K C_Code "whole_data" Machine_whole_data_a
  Machine_whole_data_b : Binds K Machine_whole_data_d ["self", "rules", "text"] []
  Rules_suit_a : Addr
  Rules_suit_d : FuncData
  Rules_suit_f : FunD K "suit" "Rules.suit" (defArgs s_Rules_suit) (defBody s_Rules_suit) (defScope s_Rules_suit) [] [] Rules_suit_a Rules_suit_d
  Rules_suit_m : Meth K C_Rules "suit" Rules_suit_a
  Rules_suit_b : Binds K Rules_suit_d ["self", "code"] []
  Machine_usual_a : Addr
  Machine_usual_d : FuncData
  Machine_usual_f : FunD K "usual" "Machine.usual" (defArgs s_Machine_usual) (defBody s_Machine_usual) (defScope s_Machine_usual) [] [] Machine_usual_a Machine_usual_d
  Machine_usual_m : Meth K C_Code "usual" Machine_usual_a
  Machine_usual_b : Binds K Machine_usual_d ["self"] []
  rules_for_a : Addr
  rules_for_d : FuncData
  rules_for_f : FunD K "rules_for" "rules_for" (defArgs s_rules_for) (defBody s_rules_for) (defScope s_rules_for) [] [] rules_for_a rules_for_d
  rules_for_g : mg "rules_for" = some (.ref rules_for_a)
  rules_for_b : Binds K rules_for_d ["code", "rules"] []
  is_right_a : Addr
  is_right_d : FuncData
  is_right_f : FunD K "is_right" "is_right" (defArgs s_is_right) (defBody s_is_right) (defScope s_is_right) [.non] [] is_right_a is_right_d
  is_right_g : mg "is_right" = some (.ref is_right_a)
  is_right_b : Binds K is_right_d ["code", "text", "rules"] []
  l_bag_a : Addr
  l_bag_d : FuncData
  l_bag_f : FunD K "_law_bag" "_law_bag" (defArgs s_l_bag) (defBody s_l_bag) (defScope s_l_bag) [] [] l_bag_a l_bag_d
  l_bag_g : mg "_law_bag" = some (.ref l_bag_a)
  l_bag_b : Binds K l_bag_d ["_law_script", "_law_at"] []
  l_take_a : Addr
  l_take_d : FuncData
  l_take_f : FunD K "_law_take" "_law_take" (defArgs s_l_take) (defBody s_l_take) (defScope s_l_take) [] [] l_take_a l_take_d
  l_take_g : mg "_law_take" = some (.ref l_take_a)
  l_take_b : Binds K l_take_d ["_law_bag_here", "_law_many"] []
  l_of_a : Addr
  l_of_d : FuncData
  l_of_f : FunD K "_law_of" "_law_of" (defArgs s_l_of) (defBody s_l_of) (defScope s_l_of) [] [] l_of_a l_of_d
  l_of_g : mg "_law_of" = some (.ref l_of_a)
  l_of_b : Binds K l_of_d ["_law_bag_here", "_law_some"] []
  l_all_signs_a : Addr
  l_all_signs_d : FuncData
  l_all_signs_f : FunD K "_law_all_signs" "_law_all_signs" (defArgs s_l_all_signs) (defBody s_l_all_signs) (defScope s_l_all_signs) [] [] l_all_signs_a l_all_signs_d
  l_all_signs_g : mg "_law_all_signs" = some (.ref l_all_signs_a)
  l_all_signs_b : Binds K l_all_signs_d [] []
  l_code_a : Addr
  l_code_d : FuncData
  l_code_f : FunD K "_law_code" "_law_code" (defArgs s_l_code) (defBody s_l_code) (defScope s_l_code) [] [] l_code_a l_code_d
  l_code_g : mg "_law_code" = some (.ref l_code_a)
  l_code_b : Binds K l_code_d ["_law_bag_here"] []
  l_made_a : Addr
  l_made_d : FuncData
  l_made_f : FunD K "_law_made" "_law_made" (defArgs s_l_made) (defBody s_l_made) (defScope s_l_made) [] [] l_made_a l_made_d
  l_made_g : mg "_law_made" = some (.ref l_made_a)
  l_made_b : Binds K l_made_d ["_law_code_here"] []
  l_size_a : Addr
  l_size_d : FuncData
  l_size_f : FunD K "_law_size" "_law_size" (defArgs s_l_size) (defBody s_l_size) (defScope s_l_size) [] [] l_size_a l_size_d
  l_size_g : mg "_law_size" = some (.ref l_size_a)
  l_size_b : Binds K l_size_d ["_law_code_here"] []
  l_group_a : Addr
  l_group_d : FuncData
  l_group_f : FunD K "_law_group" "_law_group" (defArgs s_l_group) (defBody s_l_group) (defScope s_l_group) [] [] l_group_a l_group_d
  l_group_g : mg "_law_group" = some (.ref l_group_a)
  l_group_b : Binds K l_group_d ["_law_code_here"] []
  l_data_a : Addr
  l_data_d : FuncData
  l_data_f : FunD K "_law_data" "_law_data" (defArgs s_l_data) (defBody s_l_data) (defScope s_l_data) [] [] l_data_a l_data_d
  l_data_g : mg "_law_data" = some (.ref l_data_a)
  l_data_b : Binds K l_data_d ["_law_bag_here", "_law_most"] []
  l_bits_a : Addr
  l_bits_d : FuncData
  l_bits_f : FunD K "_law_bits" "_law_bits" (defArgs s_l_bits) (defBody s_l_bits) (defScope s_l_bits) [] [] l_bits_a l_bits_d
  l_bits_g : mg "_law_bits" = some (.ref l_bits_a)
  l_bits_b : Binds K l_bits_d ["_law_data_here"] []
  l_number_a : Addr
  l_number_d : FuncData
  l_number_f : FunD K "_law_number" "_law_number" (defArgs s_l_number) (defBody s_l_number) (defScope s_l_number) [] [] l_number_a l_number_d
  l_number_g : mg "_law_number" = some (.ref l_number_a)
  l_number_b : Binds K l_number_d ["_law_bits_here"] []
  l_digits_a : Addr
  l_digits_d : FuncData
  l_digits_f : FunD K "_law_digits" "_law_digits" (defArgs s_l_digits) (defBody s_l_digits) (defScope s_l_digits) [] [] l_digits_a l_digits_d
  l_digits_g : mg "_law_digits" = some (.ref l_digits_a)
  l_digits_b : Binds K l_digits_d ["_law_code_here", "_law_data_here"] []
  l_rows_a : Addr
  l_rows_d : FuncData
  l_rows_f : FunD K "_law_rows" "_law_rows" (defArgs s_l_rows) (defBody s_l_rows) (defScope s_l_rows) [] [] l_rows_a l_rows_d
  l_rows_g : mg "_law_rows" = some (.ref l_rows_a)
  l_rows_b : Binds K l_rows_d ["_law_code_here", "_law_row"] []
  l_other_a : Addr
  l_other_d : FuncData
  l_other_f : FunD K "_law_other" "_law_other" (defArgs s_l_other) (defBody s_l_other) (defScope s_l_other) [] [] l_other_a l_other_d
  l_other_g : mg "_law_other" = some (.ref l_other_a)
  l_other_b : Binds K l_other_d ["_law_letter"] []
  l_ruled_a : Addr
  l_ruled_d : FuncData
  l_ruled_f : FunD K "_law_ruled" "_law_ruled" (defArgs s_l_ruled) (defBody s_l_ruled) (defScope s_l_ruled) [] [] l_ruled_a l_ruled_d
  l_ruled_g : mg "_law_ruled" = some (.ref l_ruled_a)
  l_ruled_b : Binds K l_ruled_d ["_law_bag_here", "_law_code_here"] []
  l_made_rules_a : Addr
  l_made_rules_d : FuncData
  l_made_rules_f : FunD K "_law_made_rules" "_law_made_rules" (defArgs s_l_made_rules) (defBody s_l_made_rules) (defScope s_l_made_rules) [] [] l_made_rules_a l_made_rules_d
  l_made_rules_g : mg "_law_made_rules" = some (.ref l_made_rules_a)
  l_made_rules_b : Binds K l_made_rules_d ["_law_ruled_here"] []
  l_digit_a : Addr
  l_digit_d : FuncData
  l_digit_f : FunD K "_law_digit" "_law_digit" (defArgs s_l_digit) (defBody s_l_digit) (defScope s_l_digit) [] [] l_digit_a l_digit_d
  l_digit_g : mg "_law_digit" = some (.ref l_digit_a)
  l_digit_b : Binds K l_digit_d ["_law_code_here", "_law_ruled_here", "_law_one"] []
  l_spelt_a : Addr
  l_spelt_d : FuncData
  l_spelt_f : FunD K "_law_spelt" "_law_spelt" (defArgs s_l_spelt) (defBody s_l_spelt) (defScope s_l_spelt) [] [] l_spelt_a l_spelt_d
  l_spelt_g : mg "_law_spelt" = some (.ref l_spelt_a)
  l_spelt_b : Binds K l_spelt_d ["_law_bag_here", "_law_code_here", "_law_ruled_here", "_law_data_here"] []
  l_noisy_a : Addr
  l_noisy_d : FuncData
  l_noisy_f : FunD K "_law_noisy" "_law_noisy" (defArgs s_l_noisy) (defBody s_l_noisy) (defScope s_l_noisy) [] [] l_noisy_a l_noisy_d
  l_noisy_g : mg "_law_noisy" = some (.ref l_noisy_a)
  l_noisy_b : Binds K l_noisy_d ["_law_bag_here", "_law_ruled_here", "_law_text"] []
  l_right_text_a : Addr
  l_right_text_d : FuncData
  l_right_text_f : FunD K "_law_right_text" "_law_right_text" (defArgs s_l_right_text) (defBody s_l_right_text) (defScope s_l_right_text) [] [] l_right_text_a l_right_text_d
  l_right_text_g : mg "_law_right_text" = some (.ref l_right_text_a)
  l_right_text_b : Binds K l_right_text_d ["_law_bag_here", "_law_code_here", "_law_ruled_here", "_law_data_here"] []
  l_kind_a : Addr
  l_kind_d : FuncData
  l_kind_f : FunD K "_law_kind" "_law_kind" (defArgs s_l_kind) (defBody s_l_kind) (defScope s_l_kind) [] [] l_kind_a l_kind_d
  l_kind_g : mg "_law_kind" = some (.ref l_kind_a)
  l_kind_b : Binds K l_kind_d ["_law_code_here", "_law_ruled_here", "_law_one"] []
  l_is_whole_a : Addr
  l_is_whole_d : FuncData
  l_is_whole_f : FunD K "_law_is_whole" "_law_is_whole" (defArgs s_l_is_whole) (defBody s_l_is_whole) (defScope s_l_is_whole) [] [] l_is_whole_a l_is_whole_d
  l_is_whole_g : mg "_law_is_whole" = some (.ref l_is_whole_a)
  l_is_whole_b : Binds K l_is_whole_d ["_law_code_here", "_law_ruled_here", "_law_bits_here"] []
  l_may_pad_a : Addr
  l_may_pad_d : FuncData
  l_may_pad_f : FunD K "_law_may_pad" "_law_may_pad" (defArgs s_l_may_pad) (defBody s_l_may_pad) (defScope s_l_may_pad) [] [] l_may_pad_a l_may_pad_d
  l_may_pad_g : mg "_law_may_pad" = some (.ref l_may_pad_a)
  l_may_pad_b : Binds K l_may_pad_d ["_law_code_here", "_law_ruled_here", "_law_bits_here", "_law_signs", "_law_ends"] []
  l_may_end_a : Addr
  l_may_end_d : FuncData
  l_may_end_f : FunD K "_law_may_end" "_law_may_end" (defArgs s_l_may_end) (defBody s_l_may_end) (defScope s_l_may_end) [] [] l_may_end_a l_may_end_d
  l_may_end_g : mg "_law_may_end" = some (.ref l_may_end_a)
  l_may_end_b : Binds K l_may_end_d ["_law_code_here", "_law_ruled_here", "_law_bits_here", "_law_signs", "_law_ends"] []
  l_read_a : Addr
  l_read_d : FuncData
  l_read_f : FunD K "_law_read" "_law_read" (defArgs s_l_read) (defBody s_l_read) (defScope s_l_read) [] [] l_read_a l_read_d
  l_read_g : mg "_law_read" = some (.ref l_read_a)
  l_read_b : Binds K l_read_d ["_law_code_here", "_law_ruled_here", "_law_text"] []
  l_bent_a : Addr
  l_bent_d : FuncData
  l_bent_f : FunD K "_law_bent" "_law_bent" (defArgs s_l_bent) (defBody s_l_bent) (defScope s_l_bent) [] [] l_bent_a l_bent_d
  l_bent_g : mg "_law_bent" = some (.ref l_bent_a)
  l_bent_b : Binds K l_bent_d ["_law_bag_here", "_law_code_here", "_law_ruled_here", "_law_text"] []
  l_right_a : Addr
  l_right_d : FuncData
  l_right_f : FunD K "_law_right" "_law_right" (defArgs s_l_right) (defBody s_l_right) (defScope s_l_right) [] [] l_right_a l_right_d
  l_right_g : mg "_law_right" = some (.ref l_right_a)
  l_right_b : Binds K l_right_d ["_law_real", "_law_own", "_law_code_here", "_law_ruled_here", "_law_text"] []
  law_a : Addr
  law_d : FuncData
  law_f : FunD K "law" "law" (defArgs s_law) (defBody s_law) (defScope s_law) [] [] law_a law_d
  law_g : mg "law" = some (.ref law_a)
  law_b : Binds K law_d ["_law_script"] []
  Rules___init___k0_ : ∃ g, KBn K Rules___init___d ["self", "pads", "skip", "lines", "loose", "fold"] 1 [] g (fun vs zs => vs ++ (zs ++ [.str (Str.ofString "full"), .str (Str.ofString ""), .bl true, .bl false, .bl false]))
  Code___init___k1_pad_width : ∃ g, KBn K Code___init___d ["self", "signs", "pad", "width"] 2 ["pad", "width"] g (fun vs zs => vs ++ zs)
  Rules___init___k0_pads_skip_lines_loose_fold : ∃ g, KBn K Rules___init___d ["self", "pads", "skip", "lines", "loose", "fold"] 1 ["pads", "skip", "lines", "loose", "fold"] g (fun vs zs => vs ++ zs)
  C_Rules_n_options : NoAttr K C_Rules "options"
  C_Code_n_parts : NoAttr K C_Code "parts"
  C_Code_n_sign_bits : NoAttr K C_Code "sign_bits"
  C_Code_n_digits : NoAttr K C_Code "digits"
  C_Code_r : ClX.CRead K C_Code (.type "type")
  C_Code_v_WIDEST : ∃ u, ClX.CVal K C_Code (.type "type") "WIDEST" (.int 76) u
  k_PRINTED_u : Value
  k_PRINTED_g : mg "PRINTED" = some k_PRINTED_u
  k_PRINTED_r : RelV (.str (Str.ofString " !\"#$&'()*+,-./0123456789:;<=>?@ABCDEFGHIJKLMNOPQRSTUVWXYZ[\\]^_`abcdefghijklmnopqrstuvwxyz{|}~")) k_PRINTED_u
  k_CHARACTERS_u : Value
  k_CHARACTERS_g : mg "CHARACTERS" = some k_CHARACTERS_u
  k_CHARACTERS_r : RelV (.str (Str.ofString "\n !\"#$&'()*+,-./0123456789:;<=>?@ABCDEFGHIJKLMNOPQRSTUVWXYZ[\\]^_`abcdefghijklmnopqrstuvwxyz{|}~")) k_CHARACTERS_u
  k_MOST_CHARACTERS_u : Value
  k_MOST_CHARACTERS_g : mg "MOST_CHARACTERS" = some k_MOST_CHARACTERS_u
  k_MOST_CHARACTERS_r : RelV (.int 12000) k_MOST_CHARACTERS_u
  k_SMALLS_u : Value
  k_SMALLS_g : mg "SMALLS" = some k_SMALLS_u
  k_SMALLS_r : RelV (.str (Str.ofString "abcdefghijklmnopqrstuvwxyz")) k_SMALLS_u
  k_CAPITALS_u : Value
  k_CAPITALS_g : mg "CAPITALS" = some k_CAPITALS_u
  k_CAPITALS_r : RelV (.str (Str.ofString "ABCDEFGHIJKLMNOPQRSTUVWXYZ")) k_CAPITALS_u
  k_PADS_a : Addr
  k_PADS_g : mg "PADS" = some (.ref k_PADS_a)
  k_PADS_t : ∀ H, SqT K H k_PADS_a [.str (Str.ofString "full"), .str (Str.ofString "none"), .str (Str.ofString "optional"), .str (Str.ofString "any")]
  k_OPTIONS_a : Addr
  k_OPTIONS_g : mg "OPTIONS" = some (.ref k_OPTIONS_a)
  k_OPTIONS_t : ∀ H, SqT K H k_OPTIONS_a [.str (Str.ofString "pads"), .str (Str.ofString "skip"), .str (Str.ofString "lines"), .str (Str.ofString "loose"), .str (Str.ofString "fold")]
  k_GROUPS_a : Addr
  k_GROUPS_g : mg "GROUPS" = some (.ref k_GROUPS_a)
  k_GROUPS_t : ∀ H, SqT K H k_GROUPS_a [.int 0, .int 8, .int 4, .int 8, .int 2, .int 8, .int 4]
  k_BITS_a : Addr
  k_BITS_g : mg "BITS" = some (.ref k_BITS_a)
  k_BITS_d : IDict K k_BITS_a [(2, 1), (4, 2), (8, 3), (16, 4), (32, 5), (64, 6)]
  k_NEWLINE_u : Value
  k_NEWLINE_g : mg "NEWLINE" = some k_NEWLINE_u
  k_NEWLINE_r : RelV (.str (Str.ofString "\n")) k_NEWLINE_u
  k_BYTE_BITS_u : Value
  k_BYTE_BITS_g : mg "BYTE_BITS" = some k_BYTE_BITS_u
  k_BYTE_BITS_r : RelV (.int 8) k_BYTE_BITS_u
  n_abs : mg "abs" = none
  n_all : mg "all" = none
  n_bool : mg "bool" = none
  n_enumerate : mg "enumerate" = none
  n_int : mg "int" = none
  n_isinstance : mg "isinstance" = none
  n_len : mg "len" = none
  n_list : mg "list" = none
  n_max : mg "max" = none
  n_min : mg "min" = none
  n_range : mg "range" = none
  n_repr : mg "repr" = none
  n_str : mg "str" = none
  n_super : mg "super" = none
theorem xi_NoCharacter {K : PySem.W.Frag} {mg : Str → Option Value} (T : Txt K mg) (w : World) : PySem.PxE.InitOkN P w K mg T.X_NoCharacter T.X_NoCharacter_f ["index"] := by
  intro A R hp g d t os e t0 us mb hl X hg hb hmb lim hroom hKe he hq
  match us, hl with
  | [u0], _ =>
    have F := T.X_NoCharacter_F
    obtain ⟨oc, od, doc, pm, an, cda, ct, cc, osl, ccl, cdd, ccs, vs, tf, cl, cld, csl, lk, hcd, hcode, hvs, hcell⟩ := F.fn
    obtain ⟨nm, q, N, bs, sn, sub, ab, col, dd, k0, k1, k2, k3, k5, hC⟩ := F.oex.cls
    have lk' : K.lookup T.X_NoCharacter_f = some ⟨oc, od, .func (PySem.W.ksFn "__init__" "NoCharacter.__init__" (defArgs se_NoCharacter) (PySem.PxE.s1 "not a text" ⟨18, 8, 18, 13⟩ ⟨18, 8, 18, 15⟩ ⟨18, 8, 18, 24⟩ ⟨18, 25, 18, 37⟩ ⟨18, 8, 18, 38⟩ ⟨18, 8, 18, 38⟩ 0 :: ([⟨"index", "index", u0, ⟨19, 8, 19, 12⟩, ⟨19, 8, 19, 18⟩, ⟨19, 21, 19, 26⟩, ⟨19, 8, 19, 26⟩⟩] : List PySem.PxE.FE).map PySem.PxE.FE.st) (defScope se_NoCharacter) .none .none doc pm an (.ref cda) ct cc), osl⟩ := lk
    have hcd' : PySem.W.codeIn K (.ref cda) "NoCharacter.__init__" = true := hcd
    refine PySem.PxE.init_gen (binds := [("self", .ref e), ("index", u0)]) PySem.PxE.bas_ValueError X hg hb hmb T.n_super lim hroom lk' hcd' (ar := { arg := "self", annotation := none, pos := ⟨17, 17, 17, 21⟩ }) (by rfl) (by rfl) hcode hvs P_file P_top hcell
      (by decide +kernel) (by rfl) (by rfl) (by rfl) (by simp only [List.forall_mem_cons]; exact ⟨by rfl, ⟨by rfl, fun _ h => nomatch h⟩⟩) (by rfl) (by rfl) (by rfl) hC F.oex.sa F.hop F.hsup F.hB F.hself he hKe
      (BindsTo.of_eq (by rfl)) (by rfl) _ _ rfl (fun L => by rfl) (fun L => by rfl) ?_ (by show 1 ≤ 100; decide) (fun L => by rfl) (fun L => by rfl) (fun h' t' od' t1 a1 a2 a3 a4 => hq h' t' od' t1 a1 a2 a3 (a4.trans (by simp)))
    exact fun q hq => by
      simp only [List.mem_cons, List.not_mem_nil, or_false] at hq
      rcases hq with rfl
      · exact ⟨by rfl, by rfl, by rfl, F.noF "index" (by show _ ∈ (["index"] : List Str); simp), fun L => by rfl⟩

section
variable {w : World} {K : PySem.W.Frag} {mg : Str → Option Value} {base : Heap}
/-! ### the draws -/
structure Bag (n : Nat) (d m c : Int) : Prop where
  d0 : 0 ≤ d
  m0 : 0 ≤ m
  m1 : m < 2305843009213693951
  c0 : 0 ≤ c
  c1 : c + n ≤ 1000000
def BagAt (H : Hp) (b : Addr) (n : Nat) : Prop := ∃ d m c, Bag n d m c ∧ H b = some (.lst [.int d, .int m, .int c])
theorem BagAt.mono {H : Hp} {b : Addr} {n m : Nat} (h : BagAt H b n) (l : m ≤ n) : BagAt H b m := by
  obtain ⟨d, x, c, ⟨h1, h2, h3, h4, h5⟩, e⟩ := h
  exact ⟨d, x, c, ⟨h1, h2, h3, h4, by omega⟩, e⟩
theorem BagAt.same {H H' : Hp} {b : Addr} {n : Nat} (h : BagAt H b n) (e : Same H H') : BagAt H' b n := by
  obtain ⟨d, x, c, B, q⟩ := h
  exact ⟨d, x, c, B, e _ _ q⟩
theorem BagAt.some {H : Hp} {b : Addr} {n : Nat} (h : BagAt H b n) : ∃ o, H b = some o := let ⟨_, _, _, _, e⟩ := h; ⟨_, e⟩
theorem BagAt.ne {H : Hp} {b p : Addr} {n : Nat} (h : BagAt H b n) (e : H p = none) : p ≠ b := fun z => by
  obtain ⟨o, q⟩ := h.some
  rw [z, q] at e
  cases e
theorem BagAt.upd {H : Hp} {b p : Addr} {m : Nat} {o : HO} (h : BagAt H b m) (n : p ≠ b) : BagAt (upd H p o) b m := by
  obtain ⟨d, x, c, B, q⟩ := h
  exact ⟨d, x, c, B, gu (Ne.symm n) q⟩
theorem sameB_mut {b : Addr} {H H' : Hp} {p : Addr} {o : HO} (e : SameB b H H') (h : H p = none) : SameB b H (upd H' p o) := fun a u n ha => (upd_ne (ne_of_none ha h)).trans (e a u n ha)
def sp_l_take (T : Txt K mg) : Sp := fun vs H Q _ => ∃ (b : Addr) (k : Int) (n : Nat), vs = [.ref b, .int k] ∧ BagAt H b (n + 1) ∧ 0 < k ∧ k < 1000000 ∧
  ∀ r H', 0 ≤ r → r < k → BagAt H' b n → SameB b H H' → Q (.int r) H'
theorem len_l_take (T : Txt K mg) (vs : List V) (H : Hp) (Q : VK) (E : XK) (h : sp_l_take T vs H Q E) : vs.length = 2 := by
  obtain ⟨b, k, n, rfl, _⟩ := h
  rfl
def t_l_take (T : Txt K mg) : TS := (tSeq (tIfS (tTest (tOp rGtI (tOp (rIx K) (tVar 0) (tC (.int 0))) (tC (.int 0)))) (tSeq (tAsg (tOp rModI (tOp (rIx K) (tVar 0) (tC (.int 0))) (tVar 1)) (gName 2))
    (tSeq (tAsg (tOp rFdivI (tOp (rIx K) (tVar 0) (tC (.int 0))) (tVar 1)) (gSub (tVar 0) (tC (.int 0)) rSetL))
    (tRet (tVar 2)))) tNext)
    (tSeq (tAsg (tOp (rAddU K) (tOp (rIx K) (tVar 0) (tC (.int 2))) (tC (.int 1))) (gSub (tVar 0) (tC (.int 2)) rSetL))
    (tSeq (tAsg (tOp rModI (tOp rPowI (tOp (rAddU K) (tOp (rIx K) (tVar 0) (tC (.int 1))) (tOp (rMulU K) (tC (.int 1000033)) (tOp (rIx K) (tVar 0) (tC (.int 2))))) (tC (.int 3))) (tC (.int 2305843009213693921))) (gName 3))
    (tSeq (tAsg (tOp rModI (tOp rPowI (tOp (rAddU K) (tVar 3) (tOp (rMulU K) (tC (.int 32452867)) (tOp (rIx K) (tVar 0) (tC (.int 2))))) (tC (.int 2))) (tC (.int 2305843009213693951))) (gName 3))
    (tRet (tOp rModI (tOp rFdivI (tVar 3) (tC (.int 1024))) (tVar 1)))))))

theorem pure_l_take (T : Txt K mg) (vs : List V) (H : Hp) (Q : VK) (E : XK) (h : sp_l_take T vs H Q E) : t_l_take T { nx := fun _ H' => Q .non H', rt := Q } (start ["_law_bag_here", "_law_many", "_law_digit_here", "_law_mixed"] vs) H := by
  obtain ⟨b, k, n, rfl, ⟨d, m, c, ⟨d0, m0, m1, c0, c1⟩, hB⟩, hk, hk2, q⟩ := h
  unfold t_l_take
  have hM : ∀ x : Int, 0 ≤ x.fmod 2305843009213693921 ∧ x.fmod 2305843009213693921 < 2305843009213693921 := fun x => ⟨Int.fmod_nonneg_of_pos x (by decide), Int.fmod_lt_of_pos x (by decide)⟩
  walk_at "rd"
  refine r_iteD (fun hd => ?_) (fun hd => ?_)
  · walk_at "rd"
    refine q _ _ (Int.fmod_nonneg_of_pos _ hk) (Int.fmod_lt_of_pos _ hk) ⟨_, _, _, ⟨?_, m0, m1, c0, by omega⟩, upd_same⟩ sameB_upd
    rw [Int.fdiv_eq_ediv_of_nonneg _ (Int.le_of_lt hk)]
    exact Int.ediv_nonneg d0 (Int.le_of_lt hk)
  · walk_at "rd"
    generalize hx : ((m + 1000033 * (c + 1)) ^ (Int.toNat 3)).fmod 2305843009213693921 = x1
    have hx1 := hM ((m + 1000033 * (c + 1)) ^ (Int.toNat 3))
    rw [hx] at hx1
    walk_at "rd"
    exact q _ _ (Int.fmod_nonneg_of_pos _ hk) (Int.fmod_lt_of_pos _ hk) ⟨_, _, _, ⟨d0, m0, m1, by omega, by omega⟩, upd_same⟩ sameB_upd
theorem ok_l_take (T : Txt K mg) : FnOk P w K mg base CX0 1 T.l_take_a T.l_take_d ["_law_bag_here", "_law_many"] (sp_l_take T) := by
  refine T.l_take_f.ok sc_l_take (fun vs H Q E h => len_l_take T vs H Q E h) (fun cdv A outer s H vs Q E hr h => ⟨t_l_take T, PSs.nox ?_, pure_l_take T vs H Q E h⟩)
  have hu := hu64 hr
  exact (pss_cons (ps_if (pt_cmpR op_gt (pe_ix ix_seq (pv 0) pe_int (fun _ _ => rfl)) pe_int (nomark _)) (pss_cons (ps_set (i := 2) sc_l_take.nd rfl (.inl rfl) (pe_op op_modN (pe_ix ix_seq (pv 0) pe_int (fun _ _ => rfl)) (pv 1)))
      (pss_cons (ps_asg (pe_op op_fdivN (pe_ix ix_seq (pv 0) pe_int (fun _ _ => rfl)) (pv 1)) (pg_sub (pv 0) pe_int set_list))
      (pss_one (ps_ret (pv 2))))) pss_nil)
      (pss_cons (ps_asg (pe_op op_addU (pe_ix ix_seq (pv 0) pe_int (fun _ _ => rfl)) pe_int) (pg_sub (pv 0) pe_int set_list))
      (pss_cons (ps_set (i := 3) sc_l_take.nd rfl (.inl rfl) (pe_op op_modN (pe_op op_pow (pe_op op_addU (pe_ix ix_seq (pv 0) pe_int (fun _ _ => rfl)) (pe_op op_mulU pe_int (pe_ix ix_seq (pv 0) pe_int (fun _ _ => rfl)))) pe_int) pe_int))
      (pss_cons (ps_set (i := 3) sc_l_take.nd rfl (.inl rfl) (pe_op op_modN (pe_op op_pow (pe_op op_addU (pv 3) (pe_op op_mulU pe_int (pe_ix ix_seq (pv 0) pe_int (fun _ _ => rfl)))) pe_int) pe_int))
      (pss_one (ps_ret (pe_op op_modN (pe_op op_fdivN (pv 3) pe_int) (pv 1))))))))


def sp_l_bag (T : Txt K mg) : Sp := fun vs H Q _ => ∃ (a : Addr) (ns : List Int) (i : Nat), vs = [.ref a, .int i] ∧ SqL K H a (ns.map V.int) ∧ ns.length ≤ 63 ∧ i ≤ 1000 ∧
  ∀ p H', Same H H' → H p = none → BagAt H' p 1000000 → Q (.ref p) H'
theorem len_l_bag (T : Txt K mg) (vs : List V) (H : Hp) (Q : VK) (E : XK) (h : sp_l_bag T vs H Q E) : vs.length = 2 := by
  obtain ⟨a, ns, i, rfl, _⟩ := h
  rfl
def t_l_bag (T : Txt K mg) : TS := (tSeq (tAsg (tIf (tTest (tOp rLtI (tVar 1) (tCB (rLenU K) (tCons (tVar 0) tNil)))) (tOp (rIx K) (tVar 0) (tVar 1)) (tC (.int 0))) (gName 2))
    (tSeq (tAsg (tIf (tTest (tOp rGeI (tCB rAbs (tCons (tVar 2) tNil)) (tOp rPowI (tC (.int 10)) (tC (.int 18))))) (tCB rAbs (tCons (tVar 2) tNil)) (tC (.int 0))) (gName 3))
    (tRet (tLst (tCons (tVar 3) (tCons (tOp rModI (tOp (rMulU K) (tOp (rAddU K) (tOp (rAddU K) (tOp rModI (tVar 2) (tC (.int 2305843009213693951))) (tOp (rMulU K) (tC (.int 5003)) (tVar 1))) (tC (.int 71))) (tC (.int 7368787))) (tC (.int 2305843009213693951))) (tCons (tC (.int 0)) tNil)))))))

theorem pure_l_bag (T : Txt K mg) (vs : List V) (H : Hp) (Q : VK) (E : XK) (h : sp_l_bag T vs H Q E) : t_l_bag T { nx := fun _ H' => Q .non H', rt := Q } (start ["_law_script", "_law_at", "_law_cell", "_law_digits_here"] vs) H := by
  obtain ⟨a, ns, i, rfl, hS, hl, hi, q⟩ := h
  unfold t_l_bag
  have fin : ∀ d x : Int, 0 ≤ d → [V.int d, V.int (x.fmod 2305843009213693951), V.int 0].length ≤ sizeLine ∧ ∀ p, H p = none → Q (.ref p) (upd H p (.lst [V.int d, V.int (x.fmod 2305843009213693951), V.int 0])) := by
    intro d x hd
    walk_at "new"
    exact q _ _ hs np ⟨_, _, _, ⟨hd, Int.fmod_nonneg_of_pos _ (by decide), Int.fmod_lt_of_pos _ (by decide), Int.le_refl _, by decide⟩, hv⟩
  walk_at "rd"
  refine r_iteD (fun h => ?_) (fun h => ?_)
  · have hi' : i < ns.length := by
      rw [List.length_map] at h
      omega
    have g : atI (ns.map V.int) (i : Int) = some (.int ns[i]) := atI_nat (by rw [List.getElem?_map, List.getElem?_eq_getElem hi']; rfl)
    walk_at "rd"
    refine r_iteD (fun h => ?_) (fun h => ?_)
    · walk_at "rd"
      exact fin _ _ (by split <;> omega)
    · walk_at "rd"
      exact fin _ _ (Int.le_refl _)
  · walk_at "rd"
    refine r_iteD (fun h => ?_) (fun h => ?_)
    · walk_at "rd"
      exact fin _ _ (by split <;> omega)
    · walk_at "rd"
      exact fin _ _ (Int.le_refl _)
theorem ok_l_bag (T : Txt K mg) : FnOk P w K mg base CX0 1 T.l_bag_a T.l_bag_d ["_law_script", "_law_at"] (sp_l_bag T) := by
  refine T.l_bag_f.ok sc_l_bag (fun vs H Q E h => len_l_bag T vs H Q E h) (fun cdv A outer s H vs Q E hr h => ⟨t_l_bag T, PSs.nox ?_, pure_l_bag T vs H Q E h⟩)
  have hu := hu64 hr
  exact (pss_cons (ps_set (i := 2) sc_l_bag.nd rfl (.inl rfl) (pe_ifExp (pt_cmpR op_lt (pv 1) (pe_callB c_lenU (by rfl) T.n_len (by decide +kernel) (pa_cons (pv 0) pa_nil)) (nomark _)) (pe_ix ix_seq (pv 0) (pv 1) (fun _ _ => rfl)) pe_int))
      (pss_cons (ps_set (i := 3) sc_l_bag.nd rfl (.inl rfl) (pe_ifExp (pt_cmpR op_ge (pe_callB c_abs (by rfl) T.n_abs (by decide +kernel) (pa_cons (pv 2) pa_nil)) (pe_op op_pow pe_int pe_int) (nomark _)) (pe_callB c_abs (by rfl) T.n_abs (by decide +kernel) (pa_cons (pv 2) pa_nil)) pe_int))
      (pss_one (ps_ret (pe_lst (pa_cons (pv 3) (pa_cons (pe_op op_modN (pe_op op_mulU (pe_op op_addU (pe_op op_addU (pe_op op_modN (pv 2) pe_int) (pe_op op_mulU pe_int (pv 1))) pe_int) pe_int) pe_int) (pa_cons pe_int pa_nil))))))))

def sp_l_of (T : Txt K mg) : Sp := fun vs H Q _ => ∃ (b l : Addr) (xs : List V) (n : Nat), vs = [.ref b, .ref l] ∧ SqL K H l xs ∧ l ≠ b ∧ BagAt H b (n + 1) ∧ 0 < xs.length ∧ xs.length < 1000000 ∧
  ∀ (j : Nat) x H', xs[j]? = some x → BagAt H' b n → SameB b H H' → Q x H'
theorem len_l_of (T : Txt K mg) (vs : List V) (H : Hp) (Q : VK) (E : XK) (h : sp_l_of T vs H Q E) : vs.length = 2 := by
  obtain ⟨a, l, xs, i, rfl, _⟩ := h
  rfl
def t_l_of (T : Txt K mg) : TS := (tRet (tOp (rIx K) (tVar 1) (tCall (sp_l_take T) [] E0 (tCons (tVar 0) (tCons (tCB (rLenU K) (tCons (tVar 1) tNil)) tNil)))))

theorem pure_l_of (T : Txt K mg) (vs : List V) (H : Hp) (Q : VK) (E : XK) (h : sp_l_of T vs H Q E) : t_l_of T { nx := fun _ H' => Q .non H', rt := Q } (start ["_law_bag_here", "_law_some"] vs) H := by
  obtain ⟨b, l, xs, n, rfl, hS, hne, hB, h0, h1, q⟩ := h
  unfold t_l_of
  walk_at "rd"
  refine ⟨b, xs.length, n, rfl, hB, by omega, by omega, fun r H' r0 r1 hB' hs => ?_⟩
  obtain ⟨j, rfl⟩ : ∃ j : Nat, r = j := ⟨r.toNat, by omega⟩
  have hj : j < xs.length := by omega
  have g : atI xs (j : Int) = some xs[j] := atI_nat (List.getElem?_eq_getElem hj)
  walk_at "rd"
  exact q j _ _ (List.getElem?_eq_getElem hj) hB' hs
theorem ok_l_of (T : Txt K mg) : FnOk P w K mg base CX0 2 T.l_of_a T.l_of_d ["_law_bag_here", "_law_some"] (sp_l_of T) := by
  refine T.l_of_f.ok sc_l_of (fun vs H Q E h => len_l_of T vs H Q E h) (fun cdv A outer s H vs Q E hr h => ⟨t_l_of T, PSs.nox ?_, pure_l_of T vs H Q E h⟩)
  have hu := hu64 hr
  exact (pss_one (ps_ret (pe_ix ix_seq (pv 1) (pe_call (ok_l_take T) (hr.mono (by decide)) (by rfl) T.l_take_g T.l_take_f.kp T.l_take_b .nil pass0 (pa_cons (pv 0) (pa_cons (pe_callB c_lenU (by rfl) T.n_len (by decide +kernel) (pa_cons (pv 1) pa_nil)) pa_nil))) (fun _ _ => rfl))))



/-! ### signs -/
def prn : List Nat := List.range' 32 5 ++ List.range' 38 89
theorem prn_eq : (Str.ofString " !\"#$&'()*+,-./0123456789:;<=>?@ABCDEFGHIJKLMNOPQRSTUVWXYZ[\\]^_`abcdefghijklmnopqrstuvwxyz{|}~").cps.toList = prn := by decide +kernel
/-- a sign that a code may have -/
def Sg (c : Nat) : Prop := 33 ≤ c ∧ c ≤ 126 ∧ c ≠ 37
theorem Sg.mem {c : Nat} (h : Sg c) : c ∈ prn := by
  unfold prn
  unfold Sg at h
  rw [List.mem_append, List.mem_range'_1, List.mem_range'_1]
  omega
def Sgs (z : Str) : Prop := ∀ c ∈ z.cps.toList, Sg c
/-- whole numbers, and only they -/
def isI : V → Bool
  | .int _ => true
  | _ => false
def sp_is_integer (T : Txt K mg) : Sp := fun vs H Q _ => ∃ v t, vs = [v] ∧ Kd H v t ∧ Q (.bl (isI v)) H
theorem len_is_integer (T : Txt K mg) (vs : List V) (H : Hp) (Q : VK) (E : XK) (h : sp_is_integer T vs H Q E) : vs.length = 1 := by
  obtain ⟨_, _, rfl, _⟩ := h
  rfl
def t_is_integer (T : Txt K mg) : TS := (tRet (tAndV (tCB (rIsi K) (tCons (tVar 0) (tCons (tC (.ty "int")) tNil))) (tNotV (tCB (rIsi K) (tCons (tVar 0) (tCons (tC (.ty "bool")) tNil))))))

theorem pure_is_integer (T : Txt K mg) (vs : List V) (H : Hp) (Q : VK) (E : XK) (h : sp_is_integer T vs H Q E) : t_is_integer T { nx := fun _ H' => Q .non H', rt := Q } (start ["value"] vs) H := by
  obtain ⟨v, t, rfl, k, q⟩ := h
  unfold t_is_integer
  walk_at "rd"
  refine r_isiInt k ?_
  walk_at "rd"
  cases k with
  | int x =>
    refine r_iteT ?_
    walk_at "rd"
    refine r_isiBool (.int x) ?_
    walk_at "rd"
    exact q
  | bl b =>
    refine r_iteT ?_
    walk_at "rd"
    refine r_isiBool (.bl b) ?_
    walk_at "rd"
    exact q
  | non => exact r_iteF q
  | str z => exact r_iteF q
  | lst h => exact r_iteF q
  | tup h => exact r_iteF q
theorem ok_is_integer (T : Txt K mg) : FnOk P w K mg base CX0 1 T.is_integer_a T.is_integer_d ["value"] (sp_is_integer T) := by
  refine T.is_integer_f.ok sc_is_integer (fun vs H Q E h => len_is_integer T vs H Q E h) (fun cdv A outer s H vs Q E hr h => ⟨t_is_integer T, PSs.nox ?_, pure_is_integer T vs H Q E h⟩)
  have hu := hu64 hr
  exact (pss_one (ps_ret (pe_and (pe_callB call_isi (by rfl) T.n_isinstance (by decide +kernel) (pa_cons (pv 0) (pa_cons (pe_bltn (v := .ty "int") (by rfl) T.n_int (by decide +kernel) rfl) pa_nil))) (pe_one (pe_not (pe_callB call_isi (by rfl) T.n_isinstance (by decide +kernel) (pa_cons (pv 0) (pa_cons (pe_bltn (v := .ty "bool") (by rfl) T.n_bool (by decide +kernel) rfl) pa_nil))))))))

def isW (lo hi : Int) : V → Bool
  | .int x => decide (lo ≤ x) && decide (x ≤ hi)
  | _ => false
def sp_is_within (T : Txt K mg) : Sp := fun vs H Q _ => ∃ v t, ∃ lo hi : Int, vs = [v, .int lo, .int hi] ∧ Kd H v t ∧ Q (.bl (isW lo hi v)) H
theorem len_is_within (T : Txt K mg) (vs : List V) (H : Hp) (Q : VK) (E : XK) (h : sp_is_within T vs H Q E) : vs.length = 3 := by
  obtain ⟨_, _, _, _, rfl, _⟩ := h
  rfl
def t_is_within (T : Txt K mg) : TS := (tRet (tAndV (tCall (sp_is_integer T) [] E0 (tCons (tVar 0) tNil)) (tChain rLeI rLeI (tVar 1) (tVar 0) (tVar 2))))

theorem pure_is_within (T : Txt K mg) (vs : List V) (H : Hp) (Q : VK) (E : XK) (h : sp_is_within T vs H Q E) : t_is_within T { nx := fun _ H' => Q .non H', rt := Q } (start ["value", "low", "high"] vs) H := by
  obtain ⟨v, t, lo, hi, rfl, k, q⟩ := h
  unfold t_is_within
  walk_at "rd"
  refine ⟨v, t, rfl, k, ?_⟩
  walk_at "rd"
  cases k with
  | int x =>
    refine r_iteT ?_
    have q : Q (.bl (decide (lo ≤ x) && decide (x ≤ hi))) H := q
    walk_at "rd"
    refine r_iteD (fun h => ?_) (fun h => ?_)
    · walk_at "rd"
      rw [decide_eq_true h, Bool.true_and] at q
      exact q
    · rw [decide_eq_false h, Bool.false_and] at q
      exact q
  | bl b => exact r_iteF q
  | non => exact r_iteF q
  | str z => exact r_iteF q
  | lst h => exact r_iteF q
  | tup h => exact r_iteF q
theorem ok_is_within (T : Txt K mg) : FnOk P w K mg base CX0 2 T.is_within_a T.is_within_d ["value", "low", "high"] (sp_is_within T) := by
  refine T.is_within_f.ok sc_is_within (fun vs H Q E h => len_is_within T vs H Q E h) (fun cdv A outer s H vs Q E hr h => ⟨t_is_within T, PSs.nox ?_, pure_is_within T vs H Q E h⟩)
  have hu := hu64 hr
  exact (pss_one (ps_ret (pe_and (pe_call (ok_is_integer T) (hr.mono (by decide)) (by rfl) T.is_integer_g T.is_integer_f.kp T.is_integer_b .nil pass0 (pa_cons (pv 0) pa_nil)) (pe_one (pe_chain op_le op_le (pv 1) (pv 0) (pv 2))))))

abbrev isB : V → Bool := isW 0 255
def tx (l : List Nat) : Str := ⟨l.toArray⟩
theorem tx_len (l : List Nat) : (tx l).length = l.length := by
  show l.toArray.size = _
  simp
theorem tx_list (l : List Nat) : (tx l).cps.toList = l := by simp [tx]
theorem tx_app (a b : List Nat) : tx a ++ tx b = tx (a ++ b) := by
  show (⟨a.toArray ++ b.toArray⟩ : Str) = ⟨(a ++ b).toArray⟩
  simp
theorem tx_inj {a b : List Nat} (h : tx a = tx b) : a = b := by
  have := congrArg (fun s : Str => s.cps.toList) h
  simpa [tx_list] using this
theorem tx_of (z : Str) : z = tx z.cps.toList := by
  show z = ⟨z.cps.toList.toArray⟩
  simp
theorem tx_dec (a b : List Nat) : decide (tx a = tx b) = decide (a = b) := by
  by_cases h : a = b
  · rw [h, decide_eq_true rfl, decide_eq_true rfl]
  · rw [decide_eq_false h, decide_eq_false fun z => h (tx_inj z)]
theorem nl_tx : Str.ofString "\n" = tx [10] := rfl
theorem e_tx : Str.ofString "" = tx [] := rfl
theorem sp_tx : Str.ofString " " = tx [32] := rfl
theorem esc_tx : Str.ofString "=" = tx [61] := rfl
theorem sb_tx : Str.ofString "=\n" = tx [61, 10] := rfl
theorem smallS {n : Nat} (h : n ≤ 100000) : n ≤ sizeLine := small_line (by omega)
instance (c : Nat) : Decidable (Sg c) := inferInstanceAs (Decidable (33 ≤ c ∧ c ≤ 126 ∧ c ≠ 37))
def isSg : List Nat → Bool
  | [c] => decide (Sg c)
  | _ => false
def sp_is_sign (T : Txt K mg) : Sp := fun vs H Q _ => ∃ l : List Nat, vs = [.str (tx l)] ∧ l.length ≤ 1 ∧ Q (.bl (isSg l)) H
theorem len_is_sign (T : Txt K mg) (vs : List V) (H : Hp) (Q : VK) (E : XK) (h : sp_is_sign T vs H Q E) : vs.length = 1 := by
  obtain ⟨l, rfl, _⟩ := h
  rfl
def t_is_sign (T : Txt K mg) : TS := (tRet (tAndV (tCB (rIsi K) (tCons (tVar 0) (tCons (tC (.ty "str")) tNil))) (tAndV (tOp (rEqU K) (tCB (rLenU K) (tCons (tVar 0) tNil)) (tC (.int 1))) (tAndV (tOp (rInU K) (tVar 0) (tC (.str (Str.ofString " !\"#$&'()*+,-./0123456789:;<=>?@ABCDEFGHIJKLMNOPQRSTUVWXYZ[\\]^_`abcdefghijklmnopqrstuvwxyz{|}~")))) (tOp (rNeU K) (tVar 0) (tC (.str (Str.ofString " "))))))))

theorem pure_is_sign (T : Txt K mg) (vs : List V) (H : Hp) (Q : VK) (E : XK) (h : sp_is_sign T vs H Q E) : t_is_sign T { nx := fun _ H' => Q .non H', rt := Q } (start ["value"] vs) H := by
  obtain ⟨l, rfl, hl, q⟩ := h
  unfold t_is_sign
  walk_at "rd"
  refine r_isiS ?_
  walk_at "rd"
  refine r_lenUS (smallS (by rw [tx_len]; omega)) ?_
  walk_at "rd"
  rw [tx_len]
  match l, hl, q with
  | [], _, q => exact r_iteD (fun h => absurd h (by decide)) (fun _ => q)
  | [c], _, q =>
    refine r_iteD (fun _ => ?_) (fun h => absurd rfl h)
    walk_at "rd"
    refine r_inS ⟨c, _, rfl, rfl, ?_⟩
    rw [prn_eq]
    have e : isSg [c] = (decide (c ∈ prn) && !decide (tx [c] = Str.ofString " ")) := by
      rw [sp_tx, tx_dec]
      by_cases hs : Sg c
      · have : c ≠ 32 := by unfold Sg at hs; omega
        simp [isSg, hs, hs.mem, this]
      · by_cases hm : c ∈ prn
        · have : c = 32 := by
            unfold prn at hm
            rw [List.mem_append, List.mem_range'_1, List.mem_range'_1] at hm
            unfold Sg at hs
            omega
          subst this
          simp [isSg, hs]
        · simp [isSg, hs, hm]
    rw [e] at q
    by_cases hm : c ∈ prn
    · rw [decide_eq_true hm] at q ⊢
      walk_at "rd"
      exact q
    · rw [decide_eq_false hm] at q ⊢
      walk_at "rd"
      exact q
theorem ok_is_sign (T : Txt K mg) : FnOk P w K mg base CX0 1 T.is_sign_a T.is_sign_d ["value"] (sp_is_sign T) := by
  refine T.is_sign_f.ok sc_is_sign (fun vs H Q E h => len_is_sign T vs H Q E h) (fun cdv A outer s H vs Q E hr h => ⟨t_is_sign T, PSs.nox ?_, pure_is_sign T vs H Q E h⟩)
  have hu := hu64 hr
  exact (pss_one (ps_ret (pe_and (pe_callB call_isi (by rfl) T.n_isinstance (by decide +kernel) (pa_cons (pv 0) (pa_cons (pe_bltn (v := .ty "str") (by rfl) T.n_str (by decide +kernel) rfl) pa_nil))) (pe_and (pe_cmpR (op_eqU hu) (pe_callB c_lenU (by rfl) T.n_len (by decide +kernel) (pa_cons (pv 0) pa_nil)) pe_int (nomark _)) (pe_and (pe_cmpR op_inU (pv 0) (pe_glob (by rfl) T.k_PRINTED_g T.k_PRINTED_r) (by rfl)) (pe_one (pe_cmpR (op_neU hu) (pv 0) pe_str (nomark _))))))))

def sp_are_signs (T : Txt K mg) : Sp := fun vs H Q _ => ∃ z : Str, vs = [.str z] ∧ z.length ≤ 1000 ∧ Sgs z ∧ z.cps.toList.Nodup ∧ ∀ H', Same H H' → Q (.bl true) H'
theorem len_are_signs (T : Txt K mg) (vs : List V) (H : Hp) (Q : VK) (E : XK) (h : sp_are_signs T vs H Q E) : vs.length = 1 := by
  obtain ⟨_, rfl, _⟩ := h
  rfl
def t_are_signs (T : Txt K mg) : TS := (tSeq (tIfS (tOr (tNot (tB (tCB (rIsi K) (tCons (tVar 0) (tCons (tC (.ty "str")) tNil))))) (tNot (tB (tCB (rAll K) (tCons (tLc (iSeqU K (tVar 0)) (gName 1) tYes (tCall (sp_is_sign T) [] E0 (tCons (tVar 1) tNil)) [1]) tNil))))) (tRet (tC (.bl false))) tNext)
    (tRet (tOp (rEqU K) (tDist 1 (tVar 0)) (tCB (rLenU K) (tCons (tVar 0) tNil)))))

theorem pure_are_signs (T : Txt K mg) (vs : List V) (H : Hp) (Q : VK) (E : XK) (h : sp_are_signs T vs H Q E) : t_are_signs T { nx := fun _ H' => Q .non H', rt := Q } (start ["value", "character"] vs) H := by
  obtain ⟨z, rfl, hl, hs, hn, q⟩ := h
  unfold t_are_signs
  walk_at "rd"
  refine r_isiS ?_
  walk_at "rd"
  refine r_iseqS ?_
  walk_at "rd"
  refine ⟨z, rfl, fun D hD => ?_⟩
  refine c_it walk_str (fun i G => G D = some (.lst ((List.replicate i true).map V.bl)) ∧ Same H G) ⟨upd_same, same_new hD⟩ (fun _ _ _ _ => trivial) ?_ ?_
  · rintro i x G G' hi ⟨hG, sG⟩ ⟨rfl, c, hc, rfl⟩
    walk_at "rd"
    refine ⟨rfl, ?_⟩
    walk_at "rd"
    refine ⟨[c], rfl, Nat.le_refl _, ?_⟩
    rw [show isSg [c] = true from decide_eq_true (hs c (Array.mem_toList_iff.mpr (Array.mem_of_getElem? hc)))]
    refine ⟨_, hG, ?_, ?_, same_mut sG hD⟩
    · rw [List.length_map, List.length_replicate]
      exact Nat.lt_trans hi (Nat.lt_of_le_of_lt hl (by rw [sizeLine_eq]; decide))
    · rw [upd_same, List.replicate_succ', List.map_append]
      rfl
  rintro G ⟨hG, sG⟩
  walk_at "rd"
  refine r_all (ql hG) ?_
  rw [show (List.replicate z.cps.size true).all id = true by simp]
  walk_at "rd"
  refine r_dist (by exact Nat.lt_succ_self 1) ?_
  walk_at "rd"
  refine ⟨z, rfl, hl, fun H2 s2 => ?_⟩
  walk_at "rd"
  refine r_lenUS (Nat.le_trans hl (by rw [sizeLine_eq]; decide)) ?_
  walk_at "rd"
  rw [uniq_nodup hn, Array.length_toList, decide_eq_true (show ((z.cps.size : Nat) : Int) = (z.length : Nat) from rfl)]
  exact q _ (sG.trans s2)
theorem ok_are_signs (T : Txt K mg) : FnOk P w K mg base CX0 2 T.are_signs_a T.are_signs_d ["value"] (sp_are_signs T) := by
  refine T.are_signs_f.ok sc_are_signs (fun vs H Q E h => len_are_signs T vs H Q E h) (fun cdv A outer s H vs Q E hr h => ⟨t_are_signs T, PSs.nox ?_, pure_are_signs T vs H Q E h⟩)
  have hu := hu64 hr
  exact (pss_cons (ps_if (PW.pt (pw_or (pt_not (pt_val (pe_callB call_isi (by rfl) T.n_isinstance (by decide +kernel) (pa_cons (pv 0) (pa_cons (pe_bltn (v := .ty "str") (by rfl) T.n_str (by decide +kernel) rfl) pa_nil))))) (pw_or1 (pt_not (pt_val (pe_callB (cr_all rfl) (by rfl) T.n_all (by decide +kernel) (pa_cons (pe_lc (own := [("character", 1)]) (g := (gName 1)) (tt := tYes) rfl sc_are_signs.nd (pi_seqU (pv 0)) (blkOk_by (own := [("character", 1)]) (N := ["value", "character"]) (sc := defScope s_are_signs) (by decide +kernel)) (fun _ _ _ _ _ => (pg_name (i := 1) sc_are_signs.nd rfl (.inl rfl))) (fun _ _ _ _ _ => pts_nil) (fun _ _ _ _ _ => (pe_call (ok_is_sign T) (hr.mono (by decide)) (by rfl) T.is_sign_g T.is_sign_f.kp T.is_sign_b .nil pass0 (pa_cons (pv 1) pa_nil)))) pa_nil))))))) (pss_one (ps_ret pe_bl)) pss_nil)
      (pss_one (ps_ret (pe_cmpR (op_eqU hu) (pe_distinct (fun σ H P P' f ⟨v, e, q⟩ => ⟨v, e, f _ _ q⟩) (pe_callB call_lenT (by rfl) T.n_len (by decide +kernel) (pa_cons (pe_scT (own := [("character", 1)]) (g := gName 1) (tt := tYes) rfl sc_are_signs.nd (pi_seqU (pv 0)) (blkOk_by (own := [("character", 1)]) (N := ["value", "character"]) (sc := defScope s_are_signs) (by decide +kernel)) (fun _ _ _ _ _ => (pg_name (i := 1) sc_are_signs.nd rfl (.inl rfl))) (fun _ _ _ _ _ => pts_nil) (fun _ _ _ _ _ => (pv 1))) pa_nil))) (pe_callB c_lenU (by rfl) T.n_len (by decide +kernel) (pa_cons (pv 0) pa_nil)) (nomark _)))))


/-! ### characters -/
/-- the character of a byte -/
def chr (n : Nat) : List Nat := if n = 10 then [10] else if n < 32 ∨ 126 < n ∨ n = 37 then [] else [n]
theorem prn_at {n : Nat} (h1 : 32 ≤ n) (h2 : n ≤ 126) (h3 : n ≠ 37) : prn[n - 32 - if 37 < n then 1 else 0]? = some n := by
  have h : ∀ m : Nat, m < 127 → 32 ≤ m → m ≠ 37 → prn[m - 32 - if 37 < m then 1 else 0]? = some m := by decide +kernel
  exact h n (by omega) h1 h3
/-! ### characters of texts -/
/-- the characters that a text may have -/
def Ch (c : Nat) : Prop := c = 10 ∨ (32 ≤ c ∧ c ≤ 126 ∧ c ≠ 37)
instance (c : Nat) : Decidable (Ch c) := inferInstanceAs (Decidable (c = 10 ∨ (32 ≤ c ∧ c ≤ 126 ∧ c ≠ 37)))
def chars : List Nat := 10 :: prn
theorem chars_eq : (Str.ofString "\n !\"#$&'()*+,-./0123456789:;<=>?@ABCDEFGHIJKLMNOPQRSTUVWXYZ[\\]^_`abcdefghijklmnopqrstuvwxyz{|}~").cps.toList = chars := by decide +kernel
theorem ch_mem {c : Nat} : Ch c ↔ c ∈ chars := by
  unfold Ch chars prn
  rw [List.mem_cons, List.mem_append, List.mem_range'_1, List.mem_range'_1]
  omega
def sp_are_characters (T : Txt K mg) : Sp := fun vs H Q _ => ∃ z : Str, vs = [.str z] ∧ z.length ≤ 1000 ∧ (∀ c ∈ z.cps.toList, Ch c) ∧ z.cps.toList.Nodup ∧ ∀ H', Same H H' → Q (.bl true) H'
theorem len_are_characters (T : Txt K mg) (vs : List V) (H : Hp) (Q : VK) (E : XK) (h : sp_are_characters T vs H Q E) : vs.length = 1 := by
  obtain ⟨_, rfl, _⟩ := h
  rfl
def t_are_characters (T : Txt K mg) : TS := (tSeq (tIfS (tOr (tNot (tB (tCB (rIsi K) (tCons (tVar 0) (tCons (tC (.ty "str")) tNil))))) (tNot (tB (tCB (rAll K) (tCons (tLc (iSeqU K (tVar 0)) (gName 1) tYes (tOp (rInU K) (tVar 1) (tC (.str (Str.ofString "\n !\"#$&'()*+,-./0123456789:;<=>?@ABCDEFGHIJKLMNOPQRSTUVWXYZ[\\]^_`abcdefghijklmnopqrstuvwxyz{|}~")))) [1]) tNil))))) (tRet (tC (.bl false))) tNext)
    (tRet (tOp (rEqU K) (tDist 1 (tVar 0)) (tCB (rLenU K) (tCons (tVar 0) tNil)))))

theorem pure_are_characters (T : Txt K mg) (vs : List V) (H : Hp) (Q : VK) (E : XK) (h : sp_are_characters T vs H Q E) : t_are_characters T { nx := fun _ H' => Q .non H', rt := Q } (start ["value", "character"] vs) H := by
  obtain ⟨z, rfl, hl, hs, hn, q⟩ := h
  unfold t_are_characters
  walk_at "rd"
  refine r_isiS ?_
  walk_at "rd"
  refine r_iseqS ?_
  walk_at "rd"
  refine ⟨z, rfl, fun D hD => ?_⟩
  refine c_it walk_str (fun i G => G D = some (.lst ((List.replicate i true).map V.bl)) ∧ Same H G) ⟨upd_same, same_new hD⟩ (fun _ _ _ _ => trivial) ?_ ?_
  · rintro i x G G' hi ⟨hG, sG⟩ ⟨rfl, c, hc, rfl⟩
    walk_at "rd"
    refine ⟨rfl, ?_⟩
    walk_at "rd"
    refine r_inS ⟨c, _, rfl, rfl, ?_⟩
    rw [chars_eq, decide_eq_true (ch_mem.mp (hs c (Array.mem_toList_iff.mpr (Array.mem_of_getElem? hc))))]
    refine ⟨_, hG, ?_, ?_, same_mut sG hD⟩
    · rw [List.length_map, List.length_replicate]
      exact Nat.lt_trans hi (Nat.lt_of_le_of_lt hl (by rw [sizeLine_eq]; decide))
    · rw [upd_same, List.replicate_succ', List.map_append]
      rfl
  rintro G ⟨hG, sG⟩
  walk_at "rd"
  refine r_all (ql hG) ?_
  rw [show (List.replicate z.cps.size true).all id = true by simp]
  walk_at "rd"
  refine r_dist (by exact Nat.lt_succ_self 1) ?_
  walk_at "rd"
  refine ⟨z, rfl, hl, fun H2 s2 => ?_⟩
  walk_at "rd"
  refine r_lenUS (Nat.le_trans hl (by rw [sizeLine_eq]; decide)) ?_
  walk_at "rd"
  rw [uniq_nodup hn, Array.length_toList, decide_eq_true (show ((z.cps.size : Nat) : Int) = (z.length : Nat) from rfl)]
  exact q _ (sG.trans s2)
theorem ok_are_characters (T : Txt K mg) : FnOk P w K mg base CX0 1 T.are_characters_a T.are_characters_d ["value"] (sp_are_characters T) := by
  refine T.are_characters_f.ok sc_are_characters (fun vs H Q E h => len_are_characters T vs H Q E h) (fun cdv A outer s H vs Q E hr h => ⟨t_are_characters T, PSs.nox ?_, pure_are_characters T vs H Q E h⟩)
  have hu := hu64 hr
  exact (pss_cons (ps_if (PW.pt (pw_or (pt_not (pt_val (pe_callB call_isi (by rfl) T.n_isinstance (by decide +kernel) (pa_cons (pv 0) (pa_cons (pe_bltn (v := .ty "str") (by rfl) T.n_str (by decide +kernel) rfl) pa_nil))))) (pw_or1 (pt_not (pt_val (pe_callB (cr_all rfl) (by rfl) T.n_all (by decide +kernel) (pa_cons (pe_lc (own := [("character", 1)]) (g := (gName 1)) (tt := tYes) rfl sc_are_characters.nd (pi_seqU (pv 0)) (blkOk_by (own := [("character", 1)]) (N := ["value", "character"]) (sc := defScope s_are_characters) (by decide +kernel)) (fun _ _ _ _ _ => (pg_name (i := 1) sc_are_characters.nd rfl (.inl rfl))) (fun _ _ _ _ _ => pts_nil) (fun _ _ _ _ _ => (pe_cmpR op_inU (pv 1) (pe_glob (by rfl) T.k_CHARACTERS_g T.k_CHARACTERS_r) (by rfl)))) pa_nil))))))) (pss_one (ps_ret pe_bl)) pss_nil)
      (pss_one (ps_ret (pe_cmpR (op_eqU hu) (pe_distinct (fun σ H P P' f ⟨v, e, q⟩ => ⟨v, e, f _ _ q⟩) (pe_callB call_lenT (by rfl) T.n_len (by decide +kernel) (pa_cons (pe_scT (own := [("character", 1)]) (g := gName 1) (tt := tYes) rfl sc_are_characters.nd (pi_seqU (pv 0)) (blkOk_by (own := [("character", 1)]) (N := ["value", "character"]) (sc := defScope s_are_characters) (by decide +kernel)) (fun _ _ _ _ _ => (pg_name (i := 1) sc_are_characters.nd rfl (.inl rfl))) (fun _ _ _ _ _ => pts_nil) (fun _ _ _ _ _ => (pv 1))) pa_nil))) (pe_callB c_lenU (by rfl) T.n_len (by decide +kernel) (pa_cons (pv 0) pa_nil)) (nomark _)))))


/-! ### the other case -/
theorem occ_at {z : Str} {ch j : Nat} (hnd : z.cps.toList.Nodup) (hj : z.cps.toList[j]? = some ch) : ∃ rest, Builtin.Str.occurrences z ⟨#[ch]⟩ 0 z.length 1 = j :: rest := by
  rcases PySem.StrLaws.occ_head z ⟨#[ch]⟩ 1 (Nat.le_refl _) with ⟨_, hn⟩ | ⟨i, r, e, ha, _⟩
  · exact absurd ((PySem.StrLaws.subAt_one z ch j).mpr hj) (hn j)
  · have hi := (PySem.StrLaws.subAt_one z ch i).mp ha
    obtain ⟨l1, g1⟩ := List.getElem?_eq_some_iff.mp hj
    obtain ⟨l2, g2⟩ := List.getElem?_eq_some_iff.mp hi
    have : i = j := (List.getElem_inj hnd).mp (g2.trans g1.symm)
    exact ⟨r, by rw [e, this]⟩
def caps : List Nat := List.range' 65 26
def smls : List Nat := List.range' 97 26
theorem caps_eq : (Str.ofString "ABCDEFGHIJKLMNOPQRSTUVWXYZ").cps.toList = caps := by decide +kernel
theorem smls_eq : (Str.ofString "abcdefghijklmnopqrstuvwxyz").cps.toList = smls := by decide +kernel
theorem caps_at {c : Nat} (h : 65 ≤ c ∧ c ≤ 90) : caps[c - 65]? = some c := by
  unfold caps
  rw [List.getElem?_range' (by omega)]
  congr 1
  omega
theorem smls_at {c : Nat} (h : 97 ≤ c ∧ c ≤ 122) : smls[c - 97]? = some c := by
  unfold smls
  rw [List.getElem?_range' (by omega)]
  congr 1
  omega
/-- the letter in the other case -/
def oc (c : Nat) : List Nat := if 65 ≤ c ∧ c ≤ 90 then [c + 32] else if 97 ≤ c ∧ c ≤ 122 then [c - 32] else []
theorem oc_len (c : Nat) : (oc c).length ≤ 1 := by
  unfold oc
  split
  · exact Nat.le_refl _
  · split
    · exact Nat.le_refl _
    · exact Nat.zero_le _
theorem mem_caps {c : Nat} : c ∈ caps ↔ (65 ≤ c ∧ c ≤ 90) := by
  unfold caps
  rw [List.mem_range'_1]
  omega
theorem mem_smls {c : Nat} : c ∈ smls ↔ (97 ≤ c ∧ c ≤ 122) := by
  unfold smls
  rw [List.mem_range'_1]
  omega
theorem r_sidx {a b : Str} {i : Nat} {rest : List Nat} {H : Hp} {Q : VK} (h1 : Builtin.Str.occurrences a b 0 a.length 1 = i :: rest) (h : Q (.int (i : Nat)) H) : rSIdx (.str a) [.str b] H Q := ⟨a, b, i, rest, rfl, rfl, h1, h⟩
def sp_other_case (T : Txt K mg) : Sp := fun vs H Q _ => ∃ c : Nat, vs = [.str (tx [c])] ∧ Q (.str (tx (oc c))) H
theorem len_other_case (T : Txt K mg) (vs : List V) (H : Hp) (Q : VK) (E : XK) (h : sp_other_case T vs H Q E) : vs.length = 1 := by
  obtain ⟨_, rfl, _⟩ := h
  rfl
def t_other_case (T : Txt K mg) : TS := (tSeq (tIfS (tAnd (tTest (tOp (rNeU K) (tVar 0) (tC (.str (Str.ofString ""))))) (tTest (tOp (rInU K) (tVar 0) (tC (.str (Str.ofString "ABCDEFGHIJKLMNOPQRSTUVWXYZ")))))) (tRet (tOp (rIx K) (tC (.str (Str.ofString "abcdefghijklmnopqrstuvwxyz"))) (tBM K "str" rSIdx (tC (.str (Str.ofString "ABCDEFGHIJKLMNOPQRSTUVWXYZ"))) (tCons (tVar 0) tNil)))) tNext)
    (tRet (tIf (tTest (tOp (rInU K) (tVar 0) (tC (.str (Str.ofString "abcdefghijklmnopqrstuvwxyz"))))) (tOp (rIx K) (tC (.str (Str.ofString "ABCDEFGHIJKLMNOPQRSTUVWXYZ"))) (tBM K "str" rSIdx (tC (.str (Str.ofString "abcdefghijklmnopqrstuvwxyz"))) (tCons (tVar 0) tNil))) (tC (.str (Str.ofString ""))))))

theorem pure_other_case (T : Txt K mg) (vs : List V) (H : Hp) (Q : VK) (E : XK) (h : sp_other_case T vs H Q E) : t_other_case T { nx := fun _ H' => Q .non H', rt := Q } (start ["letter"] vs) H := by
  obtain ⟨c, rfl, q⟩ := h
  unfold t_other_case
  walk_at "rd"
  rw [show decide (tx [c] = Str.ofString "") = false by rw [e_tx, tx_dec]; rfl]
  walk_at "rd"
  refine r_inS ⟨c, _, rfl, rfl, ?_⟩
  rw [caps_eq]
  by_cases h1 : c ∈ caps
  · rw [decide_eq_true h1]
    have h1 := mem_caps.mp h1
    walk_at "rd"
    refine ⟨rfl, ?_⟩
    walk_at "rd"
    obtain ⟨rest, ho⟩ := occ_at (z := Str.ofString "ABCDEFGHIJKLMNOPQRSTUVWXYZ") (ch := c) (j := c - 65) (by rw [caps_eq]; exact List.nodup_range') (by rw [caps_eq]; exact caps_at h1)
    refine r_sidx ho ?_
    refine r_ixS (c := c + 32) (by decide) (atI_nat ?_) ?_
    · rw [smls_eq]
      have := smls_at (c := c + 32) (by omega)
      rw [show c + 32 - 97 = c - 65 by omega] at this
      exact this
    · unfold oc at q
      rw [if_pos h1] at q
      exact q
  · rw [decide_eq_false h1]
    have h1 : ¬ (65 ≤ c ∧ c ≤ 90) := fun z => h1 (mem_caps.mpr z)
    walk_at "rd"
    refine r_inS ⟨c, _, rfl, rfl, ?_⟩
    rw [smls_eq]
    unfold oc at q
    rw [if_neg h1] at q
    by_cases h2 : c ∈ smls
    · rw [decide_eq_true h2]
      have h2 := mem_smls.mp h2
      walk_at "rd"
      refine ⟨rfl, ?_⟩
      walk_at "rd"
      obtain ⟨rest, ho⟩ := occ_at (z := Str.ofString "abcdefghijklmnopqrstuvwxyz") (ch := c) (j := c - 97) (by rw [smls_eq]; exact List.nodup_range') (by rw [smls_eq]; exact smls_at h2)
      refine r_sidx ho ?_
      refine r_ixS (c := c - 32) (by decide) (atI_nat ?_) ?_
      · rw [caps_eq]
        have := caps_at (c := c - 32) (by omega)
        rw [show c - 32 - 65 = c - 97 by omega] at this
        exact this
      · rw [if_pos h2] at q
        exact q
    · rw [decide_eq_false h2]
      have h2 : ¬ (97 ≤ c ∧ c ≤ 122) := fun z => h2 (mem_smls.mpr z)
      walk_at "rd"
      rw [if_neg h2] at q
      exact q
theorem ok_other_case (T : Txt K mg) : FnOk P w K mg base CX0 1 T.other_case_a T.other_case_d ["letter"] (sp_other_case T) := by
  refine T.other_case_f.ok sc_other_case (fun vs H Q E h => len_other_case T vs H Q E h) (fun cdv A outer s H vs Q E hr h => ⟨t_other_case T, PSs.nox ?_, pure_other_case T vs H Q E h⟩)
  have hu := hu64 hr
  exact (pss_cons (ps_if (PW.pt (pw_and (pt_cmpR (op_neU hu) (pv 0) pe_str (nomark _)) (pw_and1 (pt_cmpR op_inU (pv 0) (pe_glob (by rfl) T.k_CAPITALS_g T.k_CAPITALS_r) (by rfl))))) (pss_one (ps_ret (pe_ix ix_seq (pe_glob (by rfl) T.k_SMALLS_g T.k_SMALLS_r) (pe_bm PySem.F.plainAttrs_str PySem.F.slot_str_index PySem.F.type_str_index mt_sindex (pe_glob (by rfl) T.k_CAPITALS_g T.k_CAPITALS_r) (pa_cons (pv 0) pa_nil)) (fun _ _ => rfl)))) pss_nil)
      (pss_one (ps_ret (pe_ifExp (pt_cmpR op_inU (pv 0) (pe_glob (by rfl) T.k_SMALLS_g T.k_SMALLS_r) (by rfl)) (pe_ix ix_seq (pe_glob (by rfl) T.k_CAPITALS_g T.k_CAPITALS_r) (pe_bm PySem.F.plainAttrs_str PySem.F.slot_str_index PySem.F.type_str_index mt_sindex (pe_glob (by rfl) T.k_SMALLS_g T.k_SMALLS_r) (pa_cons (pv 0) pa_nil)) (fun _ _ => rfl)) pe_str))))


end
section
variable {w : World} {K : PySem.W.Frag} {mg : Str → Option Value} {base : Heap}
/-! ### a code -/
structure CodeD where
  sg : Str
  pd : Str
  wd : Nat
  sb : Nat
structure CodeD.Ok (c : CodeD) : Prop where
  b1 : 1 ≤ c.sb
  b6 : c.sb ≤ 6
  ln : c.sg.length = 2 ^ c.sb
  sgs : Sgs c.sg
  pds : Sgs c.pd
  pl : c.pd.length ≤ 1
  wd76 : c.wd ≤ 76
/-- the dict of the digits -/
def Dig (c : CodeD) (kvs : List (Key × V)) : Prop := (∀ (j ch : Nat), c.sg.cps.toList[j]? = some ch → valV kvs (.inr ⟨#[ch]⟩) = some (.int (j : Nat))) ∧ ∀ z : Str, (∀ ch ∈ c.sg.cps.toList, z ≠ ⟨#[ch]⟩) → valV kvs (.inr z) = none
def CodeAt (T : Txt K mg) (H : Hp) (a : Addr) (c : CodeD) : Prop := c.Ok ∧ ∃ dx tp dg kvs, H a = some (.ins T.C_Code dx [("parts", .ref tp), ("digits", .ref dg), ("sign_bits", .int c.sb)]) ∧ H tp = some (.tup [.str c.sg, .str c.pd, .int c.wd]) ∧ H dg = some (.dK kvs) ∧ Dig c kvs
theorem CodeAt.same {T : Txt K mg} {H H' : Hp} {a : Addr} {c : CodeD} (h : CodeAt T H a c) (s : Same H H') : CodeAt T H' a c := by
  obtain ⟨o, dx, tp, dg, kvs, h1, h2, h3, h4⟩ := h
  exact ⟨o, dx, tp, dg, kvs, s _ _ h1, s _ _ h2, s _ _ h3, h4⟩
/-- a getter's promise -/
def spG (T : Txt K mg) (g : CodeD → V) : Sp := fun vs H Q _ => ∃ a c, vs = [.ref a] ∧ CodeAt T H a c ∧ Q (g c) H
theorem len_spG (T : Txt K mg) (g : CodeD → V) (vs : List V) (H : Hp) (Q : VK) (E : XK) (h : spG T g vs H Q E) : vs.length = 1 := by
  obtain ⟨_, _, rfl, _⟩ := h
  rfl
abbrev sp_Code_signs (T : Txt K mg) : Sp := spG T fun c => .str c.sg
abbrev sp_Code_pad (T : Txt K mg) : Sp := spG T fun c => .str c.pd
abbrev sp_Code_width (T : Txt K mg) : Sp := spG T fun c => .int c.wd
abbrev sp_Code_bits (T : Txt K mg) : Sp := spG T fun c => .int c.sb
def grp (b : Nat) : Nat := [0, 8, 4, 8, 2, 8, 4].getD b 0
theorem grp_at {n : Nat} (h : n ≤ 6) : atI [V.int 0, V.int 8, V.int 4, V.int 8, V.int 2, V.int 8, V.int 4] (n : Int) = some (V.int (grp n : Nat)) := by
  have e : n = 0 ∨ n = 1 ∨ n = 2 ∨ n = 3 ∨ n = 4 ∨ n = 5 ∨ n = 6 := by omega
  rcases e with rfl | rfl | rfl | rfl | rfl | rfl | rfl <;> rfl
abbrev sp_Code_group (T : Txt K mg) : Sp := spG T fun c => .int (grp c.sb : Nat)
theorem len_Code_signs (T : Txt K mg) (vs : List V) (H : Hp) (Q : VK) (E : XK) (h : sp_Code_signs T vs H Q E) : vs.length = 1 := len_spG T _ vs H Q E h
theorem len_Code_pad (T : Txt K mg) (vs : List V) (H : Hp) (Q : VK) (E : XK) (h : sp_Code_pad T vs H Q E) : vs.length = 1 := len_spG T _ vs H Q E h
theorem len_Code_width (T : Txt K mg) (vs : List V) (H : Hp) (Q : VK) (E : XK) (h : sp_Code_width T vs H Q E) : vs.length = 1 := len_spG T _ vs H Q E h
theorem len_Code_bits (T : Txt K mg) (vs : List V) (H : Hp) (Q : VK) (E : XK) (h : sp_Code_bits T vs H Q E) : vs.length = 1 := len_spG T _ vs H Q E h
theorem len_Code_group (T : Txt K mg) (vs : List V) (H : Hp) (Q : VK) (E : XK) (h : sp_Code_group T vs H Q E) : vs.length = 1 := len_spG T _ vs H Q E h
theorem r_parts {T : Txt K mg} {σ : S} {H : Hp} {Q : VK} {i : Nat} {a : Addr} {c : CodeD} (h0 : σ[i]? = some (some (.ref a))) (hc : CodeAt T H a c) (k : ∀ tp, H tp = some (.tup [.str c.sg, .str c.pd, .int c.wd]) → Q (.ref tp) H) : tFld K (tVar i) "parts" σ H Q := by
  refine ⟨_, h0, ?_⟩
  obtain ⟨o, dx, tp, dg, kvs, h1, h2, h3, h4⟩ := hc
  exact ⟨a, _, dx, _, .ref tp, rfl, h1, T.C_Code_c, T.C_Code_n_parts, rfl, k tp h2⟩
theorem r_bits {T : Txt K mg} {σ : S} {H : Hp} {Q : VK} {i : Nat} {a : Addr} {c : CodeD} (h0 : σ[i]? = some (some (.ref a))) (hc : CodeAt T H a c) (k : Q (.int c.sb) H) : tFld K (tVar i) "sign_bits" σ H Q := by
  refine ⟨_, h0, ?_⟩
  obtain ⟨o, dx, tp, dg, kvs, h1, h2, h3, h4⟩ := hc
  exact ⟨a, _, dx, _, .int c.sb, rfl, h1, T.C_Code_c, T.C_Code_n_sign_bits, rfl, k⟩
def t_Code_signs (T : Txt K mg) : TS := (tRet (tOp (rIx K) (tFld K (tVar 0) "parts") (tC (.int 0))))

theorem pure_Code_signs (T : Txt K mg) (vs : List V) (H : Hp) (Q : VK) (E : XK) (h : sp_Code_signs T vs H Q E) : t_Code_signs T { nx := fun _ H' => Q .non H', rt := Q } (start ["self"] vs) H := by
  obtain ⟨a, c, rfl, hc, q⟩ := h
  unfold t_Code_signs
  walk_at "rd"
  refine r_parts rfl hc fun tp ht => ?_
  walk_at "rd"
  exact q
theorem ok_Code_signs (T : Txt K mg) : FnOk P w K mg base CX0 1 T.Code_signs_a T.Code_signs_d ["self"] (sp_Code_signs T) := by
  refine T.Code_signs_f.ok sc_Code_signs (fun vs H Q E h => len_Code_signs T vs H Q E h) (fun cdv A outer s H vs Q E hr h => ⟨t_Code_signs T, PSs.nox ?_, pure_Code_signs T vs H Q E h⟩)
  have hu := hu64 hr
  exact (pss_one (ps_ret (pe_ix ix_seq (pe_fld (pv 0) rfl) pe_int (fun _ _ => rfl))))

def t_Code_pad (T : Txt K mg) : TS := (tRet (tOp (rIx K) (tFld K (tVar 0) "parts") (tC (.int 1))))

theorem pure_Code_pad (T : Txt K mg) (vs : List V) (H : Hp) (Q : VK) (E : XK) (h : sp_Code_pad T vs H Q E) : t_Code_pad T { nx := fun _ H' => Q .non H', rt := Q } (start ["self"] vs) H := by
  obtain ⟨a, c, rfl, hc, q⟩ := h
  unfold t_Code_pad
  walk_at "rd"
  refine r_parts rfl hc fun tp ht => ?_
  walk_at "rd"
  exact q
theorem ok_Code_pad (T : Txt K mg) : FnOk P w K mg base CX0 1 T.Code_pad_a T.Code_pad_d ["self"] (sp_Code_pad T) := by
  refine T.Code_pad_f.ok sc_Code_pad (fun vs H Q E h => len_Code_pad T vs H Q E h) (fun cdv A outer s H vs Q E hr h => ⟨t_Code_pad T, PSs.nox ?_, pure_Code_pad T vs H Q E h⟩)
  have hu := hu64 hr
  exact (pss_one (ps_ret (pe_ix ix_seq (pe_fld (pv 0) rfl) pe_int (fun _ _ => rfl))))

def t_Code_width (T : Txt K mg) : TS := (tRet (tOp (rIx K) (tFld K (tVar 0) "parts") (tC (.int 2))))

theorem pure_Code_width (T : Txt K mg) (vs : List V) (H : Hp) (Q : VK) (E : XK) (h : sp_Code_width T vs H Q E) : t_Code_width T { nx := fun _ H' => Q .non H', rt := Q } (start ["self"] vs) H := by
  obtain ⟨a, c, rfl, hc, q⟩ := h
  unfold t_Code_width
  walk_at "rd"
  refine r_parts rfl hc fun tp ht => ?_
  walk_at "rd"
  exact q
theorem ok_Code_width (T : Txt K mg) : FnOk P w K mg base CX0 1 T.Code_width_a T.Code_width_d ["self"] (sp_Code_width T) := by
  refine T.Code_width_f.ok sc_Code_width (fun vs H Q E h => len_Code_width T vs H Q E h) (fun cdv A outer s H vs Q E hr h => ⟨t_Code_width T, PSs.nox ?_, pure_Code_width T vs H Q E h⟩)
  have hu := hu64 hr
  exact (pss_one (ps_ret (pe_ix ix_seq (pe_fld (pv 0) rfl) pe_int (fun _ _ => rfl))))

def t_Code_bits (T : Txt K mg) : TS := (tRet (tFld K (tVar 0) "sign_bits"))

theorem pure_Code_bits (T : Txt K mg) (vs : List V) (H : Hp) (Q : VK) (E : XK) (h : sp_Code_bits T vs H Q E) : t_Code_bits T { nx := fun _ H' => Q .non H', rt := Q } (start ["self"] vs) H := by
  obtain ⟨a, c, rfl, hc, q⟩ := h
  unfold t_Code_bits
  walk_at "rd"
  exact r_bits rfl hc q
theorem ok_Code_bits (T : Txt K mg) : FnOk P w K mg base CX0 1 T.Code_bits_a T.Code_bits_d ["self"] (sp_Code_bits T) := by
  refine T.Code_bits_f.ok sc_Code_bits (fun vs H Q E h => len_Code_bits T vs H Q E h) (fun cdv A outer s H vs Q E hr h => ⟨t_Code_bits T, PSs.nox ?_, pure_Code_bits T vs H Q E h⟩)
  have hu := hu64 hr
  exact (pss_one (ps_ret (pe_fld (pv 0) rfl)))

def t_Code_group (T : Txt K mg) : TS := (tRet (tOp (rIx K) (tC (.ref T.k_GROUPS_a)) (tFld K (tVar 0) "sign_bits")))

theorem pure_Code_group (T : Txt K mg) (vs : List V) (H : Hp) (Q : VK) (E : XK) (h : sp_Code_group T vs H Q E) : t_Code_group T { nx := fun _ H' => Q .non H', rt := Q } (start ["self"] vs) H := by
  obtain ⟨a, c, rfl, hc, q⟩ := h
  unfold t_Code_group
  walk_at "rd"
  refine r_bits rfl hc ?_
  exact r_ixT (T.k_GROUPS_t H) (grp_at hc.1.b6) q
theorem ok_Code_group (T : Txt K mg) : FnOk P w K mg base CX0 1 T.Code_group_a T.Code_group_d ["self"] (sp_Code_group T) := by
  refine T.Code_group_f.ok sc_Code_group (fun vs H Q E h => len_Code_group T vs H Q E h) (fun cdv A outer s H vs Q E hr h => ⟨t_Code_group T, PSs.nox ?_, pure_Code_group T vs H Q E h⟩)
  have hu := hu64 hr
  exact (pss_one (ps_ret (pe_ix ix_seq (pe_glob (by rfl) T.k_GROUPS_g rfl) (pe_fld (pv 0) rfl) (fun _ _ => rfl))))

/-! ### steps over a code -/
theorem r_get {T : Txt K mg} {g : CodeD → V} {σ : S} {H : Hp} {Q : VK} {i : Nat} {a : Addr} {c : CodeD} (h0 : σ[i]? = some (some (.ref a))) (hc : CodeAt T H a c) (h : Q (g c) H) : tProp T.C_Code (spG T g) [] E0 (tVar i) σ H Q := by
  refine ⟨_, h0, ?_⟩
  have hc' := hc
  obtain ⟨o, dx, tp, dg, kvs, h1, h2, h3, h4⟩ := hc'
  exact ⟨a, dx, _, rfl, h1, a, c, rfl, hc, h⟩
theorem r_methC {T : Txt K mg} {m : Str} {sp : Sp} {σ : S} {H : Hp} {Q : VK} {E : XK} {i : Nat} {a : Addr} {c : CodeD} {tr : TA} (h0 : σ[i]? = some (some (.ref a))) (hc : CodeAt T H a c)
    (hm : ∀ v1 v2 v3 : V, ([("parts", v1), ("digits", v2), ("sign_bits", v3)] : List (Str × V)).lookup m = none) (h : tr σ H fun vs H2 => sp (.ref a :: (vs ++ [])) H2 Q E) : tMeth T.C_Code m sp [] E (tVar i) tr σ H Q := by
  refine ⟨_, h0, ?_⟩
  obtain ⟨o, dx, tp, dg, kvs, h1, h2, h3, h4⟩ := hc
  exact ⟨a, dx, _, rfl, h1, hm _ _ _, h⟩

end
section
variable {w : World} {K : PySem.W.Frag} {mg : Str → Option Value} {base : Heap}
local macro_rules | `(tactic| walk_at "hc") => `(tactic| first
  | assumption
  | ((refine CodeAt.same (H := ?xH) ?xb ?xa); (case xa => assumption); (case xb => walk_at "hc")))
local macro_rules | `(tactic| walk_at "rd0") => `(tactic| first
  | ((with_reducible refine r_get (a := ?xa) (c := ?xc) ?x1 ?x2 ?_); (case x1 => rfl); (case x2 => walk_at "hc"))
  | ((with_reducible refine r_methC (a := ?xa) (c := ?xc) ?x1 ?x2 ?x3 ?_); (case x1 => rfl); (case x2 => walk_at "hc"); (case x3 => (intro _ _ _; rfl)))
  | (with_reducible refine r_fmtB ?_)
  | (with_reducible refine r_dget ?_)
  | (with_reducible refine r_m0 ?_)
  | (with_reducible refine r_makeK ?_)
  | (with_reducible refine r_cval ?_)
  | (with_reducible refine r_sfld ?_)
  | (with_reducible refine r_isiI ?_)
  | (with_reducible refine r_isiIB ?_)
  | (with_reducible refine r_isiS ?_)
  | (with_reducible refine r_inID ?_))

/-! ### x in code -/
def inL (c : CodeD) : List Nat → Bool
  | [ch] => decide (Sg ch) && decide (ch ∈ c.sg.cps.toList)
  | _ => false
def sp_Code___contains__ (T : Txt K mg) : Sp := fun vs H Q _ => ∃ a c l, vs = [.ref a, .str (tx l)] ∧ CodeAt T H a c ∧ l.length ≤ 1 ∧ Q (.bl (inL c l)) H
theorem len_Code___contains__ (T : Txt K mg) (vs : List V) (H : Hp) (Q : VK) (E : XK) (h : sp_Code___contains__ T vs H Q E) : vs.length = 2 := by
  obtain ⟨_, _, _, rfl, _⟩ := h
  rfl
def t_Code___contains__ (T : Txt K mg) : TS := (tRet (tAndV (tCall (sp_is_sign T) [] E0 (tCons (tVar 1) tNil)) (tOp (rInU K) (tVar 1) (tOp (rIx K) (tFld K (tVar 0) "parts") (tC (.int 0))))))

theorem pure_Code___contains__ (T : Txt K mg) (vs : List V) (H : Hp) (Q : VK) (E : XK) (h : sp_Code___contains__ T vs H Q E) : t_Code___contains__ T { nx := fun _ H' => Q .non H', rt := Q } (start ["self", "value"] vs) H := by
  obtain ⟨a, c, l, rfl, hc, hl, q⟩ := h
  unfold t_Code___contains__
  walk_at "rd"
  refine ⟨l, rfl, hl, ?_⟩
  walk_at "rd"
  match l, hl, q with
  | [], _, q => exact r_iteF q
  | [ch], _, q =>
    by_cases hs : Sg ch
    · rw [show isSg [ch] = true from decide_eq_true hs]
      refine r_iteT ?_
      walk_at "rd"
      refine r_parts rfl hc fun tp ht => ?_
      walk_at "rd"
      have q : Q (.bl (decide (Sg ch) && decide (ch ∈ c.sg.cps.toList))) H := q
      rw [decide_eq_true hs, Bool.true_and] at q
      exact r_inS ⟨ch, _, rfl, rfl, q⟩
    · rw [show isSg [ch] = false from decide_eq_false hs]
      have q : Q (.bl (decide (Sg ch) && decide (ch ∈ c.sg.cps.toList))) H := q
      rw [decide_eq_false hs, Bool.false_and] at q
      exact r_iteF q
theorem ok_Code___contains__ (T : Txt K mg) : FnOk P w K mg base CX0 2 T.Code___contains___a T.Code___contains___d ["self", "value"] (sp_Code___contains__ T) := by
  refine T.Code___contains___f.ok sc_Code___contains__ (fun vs H Q E h => len_Code___contains__ T vs H Q E h) (fun cdv A outer s H vs Q E hr h => ⟨t_Code___contains__ T, PSs.nox ?_, pure_Code___contains__ T vs H Q E h⟩)
  have hu := hu64 hr
  exact (pss_one (ps_ret (pe_and (pe_call (ok_is_sign T) (hr.mono (by decide)) (by rfl) T.is_sign_g T.is_sign_f.kp T.is_sign_b .nil pass0 (pa_cons (pv 1) pa_nil)) (pe_one (pe_cmpR op_inU (pv 1) (pe_ix ix_seq (pe_fld (pv 0) rfl) pe_int (fun _ _ => rfl)) (by rfl))))))


end
section
variable {w : World} {K : PySem.W.Frag} {mg : Str → Option Value} {base : Heap}
local macro_rules | `(tactic| walk_at "hc") => `(tactic| first
  | assumption
  | ((refine CodeAt.same (H := ?xH) ?xb ?xa); (case xa => assumption); (case xb => walk_at "hc")))
local macro_rules | `(tactic| walk_at "rd0") => `(tactic| first
  | ((with_reducible refine r_get (a := ?xa) (c := ?xc) ?x1 ?x2 ?_); (case x1 => rfl); (case x2 => walk_at "hc"))
  | ((with_reducible refine r_methC (a := ?xa) (c := ?xc) ?x1 ?x2 ?x3 ?_); (case x1 => rfl); (case x2 => walk_at "hc"); (case x3 => (intro _ _ _; rfl)))
  | (with_reducible refine r_fmtB ?_)
  | (with_reducible refine r_dget ?_)
  | (with_reducible refine r_m0 ?_)
  | (with_reducible refine r_makeK ?_)
  | (with_reducible refine r_cval ?_)
  | (with_reducible refine r_sfld ?_)
  | (with_reducible refine r_isiI ?_)
  | (with_reducible refine r_isiIB ?_)
  | (with_reducible refine r_isiS ?_)
  | (with_reducible refine r_inID ?_))

/-! ### a code is made -/
theorem d_it {J : It} {n : Nat} {G0 : Hp → Prop} {Y : Nat → Hp → V → Hp → Prop} {g : TG} {tt : TT} {tk tv : TE} {us : List Nat} {σ : S} {H : Hp} {D : Addr} {Qd : Hp → Prop} (w : Walk J n G0 Y) (Pv : Nat → Hp → Prop) (h0 : Pv 0 (upd H D (.dK []))) (hG : ∀ i H, i ≤ n → Pv i H → G0 H)
    (hs : ∀ i x H H', i < n → Pv i H → Y i H x H' → g x (wipe σ us) H' fun σ2 H2 => wipe σ2 us = wipe σ us ∧ tt σ2 H2 fun b H3 =>
      if b = true then tk σ2 H3 fun y H4 => tv σ2 H4 fun z H5 => ∃ kvs k, y = kV k ∧ H5 D = some (.dK kvs) ∧ kvs.length < sizeLine ∧ Pv (i + 1) (upd H5 D (.dK (putK kvs k z))) else Pv (i + 1) H3) (hd : ∀ H, Pv n H → Qd H) :
    ∃ W : Nat → Nat → Hp → Prop, (∃ m, W 0 m (upd H D (.dK []))) ∧ ∀ i m H, W i m H → (J.stop i H ∧ Qd H) ∨ (J.go i H ∧ ∃ Nx : Hp → Prop, (∀ H', Nx H' → ∃ m', m' < m ∧ W (i + 1) m' H') ∧ ∀ x H', J.yld i H x H' →
      g x (wipe σ us) H' fun σ2 H2 => wipe σ2 us = wipe σ us ∧ tt σ2 H2 fun b H3 =>
        if b = true then tk σ2 H3 fun y H4 => tv σ2 H4 fun z H5 => ∃ kvs k, y = kV k ∧ H5 D = some (.dK kvs) ∧ kvs.length < sizeLine ∧ Nx (upd H5 D (.dK (putK kvs k z))) else Nx H3) := by
  refine ⟨fun i m H => m = n - i ∧ i ≤ n ∧ Pv i H, ⟨n, by omega, Nat.zero_le _, h0⟩, ?_⟩
  rintro i m H ⟨rfl, hi, p⟩
  by_cases lt : i < n
  · exact .inr ⟨w.1 i H lt (hG i H hi p), Pv (i + 1), fun H' q => ⟨n - (i + 1), by omega, rfl, lt, q⟩, fun x H' y => hs i x H H' lt p (w.3 i H x H' lt (hG i H hi p) y)⟩
  · have e : i = n := by omega
    subst e
    exact .inl ⟨w.2 H (hG i H hi p), hd H p⟩
theorem pad_eq {c : CodeD} (ok : c.Ok) (h : c.pd.cps.toList ≠ []) : c.pd = tx [c.pd.cps.toList.getD 0 0] := by
  have hl : c.pd.cps.toList.length ≤ 1 := by rw [Array.length_toList]; exact ok.pl
  have e := tx_of c.pd
  generalize c.pd.cps.toList = l at h hl e ⊢
  match l, h, hl with
  | [x], _, _ => exact e
  | _ :: _ :: _, _, hl => exact absurd hl (by rw [List.length_cons, List.length_cons]; omega)
def CodeD.New (c : CodeD) : Prop := c.Ok ∧ c.sg.cps.toList.Nodup ∧ ∀ x ∈ c.pd.cps.toList, x ∉ c.sg.cps.toList
def sp_Code___init__ (T : Txt K mg) : Sp := fun vs H Q _ => ∃ a dx, ∃ c : CodeD, vs = [.ref a, .str c.sg, .str c.pd, .int c.wd] ∧ H a = some (.ins T.C_Code dx []) ∧ c.New ∧ ∀ H', SameB a H H' → CodeAt T H' a c → Q .non H'
theorem len_Code___init__ (T : Txt K mg) (vs : List V) (H : Hp) (Q : VK) (E : XK) (h : sp_Code___init__ T vs H Q E) : vs.length = 4 := by
  obtain ⟨_, _, _, rfl, _⟩ := h
  rfl
theorem bits_at {n : Nat} (h1 : 1 ≤ n) (h6 : n ≤ 6) : atK [(2, 1), (4, 2), (8, 3), (16, 4), (32, 5), (64, 6)] ((2 ^ n : Nat) : Int) = some (n : Int) := by
  have e : n = 1 ∨ n = 2 ∨ n = 3 ∨ n = 4 ∨ n = 5 ∨ n = 6 := by omega
  rcases e with rfl | rfl | rfl | rfl | rfl | rfl <;> decide
def t_Code___init__ (T : Txt K mg) : TS := (tSeq (tIfS (tOr (tNot (tB (tCall (sp_are_signs T) [] E0 (tCons (tVar 1) tNil)))) (tTest (tOp (rInID [(2, 1), (4, 2), (8, 3), (16, 4), (32, 5), (64, 6)] T.k_BITS_a (fun b => !b)) (tCB (rLenU K) (tCons (tVar 1) tNil)) (tC (.ref T.k_BITS_a))))) tNever tNext)
    (tSeq (tIfS (tOr (tAnd (tTest (tOp (rNeU K) (tVar 2) (tC (.str (Str.ofString ""))))) (tOr (tNot (tB (tCall (sp_is_sign T) [] E0 (tCons (tVar 2) tNil)))) (tTest (tOp (rInU K) (tVar 2) (tVar 1))))) (tNot (tB (tCB (rIsi K) (tCons (tVar 2) (tCons (tC (.ty "str")) tNil)))))) tNever tNext)
    (tSeq (tIfS (tNot (tB (tCall (sp_is_within T) [] E0 (tCons (tVar 3) (tCons (tC (.int 0)) (tCons (ClX.tCVal K (tC (.ref T.C_Code)) "WIDEST") tNil)))))) tNever tNext)
    (tSeq (sFld K (tVar 0) (tTup (tCons (tVar 1) (tCons (tVar 2) (tCons (tVar 3) tNil)))) "parts")
    (tSeq (sFld K (tVar 0) (tDc (iEnumU K (tCons (tVar 1) tNil)) (gTup K 2 (gCons (gName 4) (gCons (gName 5) gNil))) tYes (tVar 5) (tVar 4) [4, 5]) "digits")
    (sFld K (tVar 0) (tOp (rIxID [(2, 1), (4, 2), (8, 3), (16, 4), (32, 5), (64, 6)] T.k_BITS_a) (tC (.ref T.k_BITS_a)) (tCB (rLenU K) (tCons (tVar 1) tNil))) "sign_bits"))))))

theorem pure_Code___init__ (T : Txt K mg) (vs : List V) (H : Hp) (Q : VK) (E : XK) (h : sp_Code___init__ T vs H Q E) : t_Code___init__ T { nx := fun _ H' => Q .non H', rt := Q } (start ["self", "signs", "pad", "width", "digit", "sign"] vs) H := by
  obtain ⟨a, dx, c, rfl, ha, ⟨ok, hnd, hpn⟩, q⟩ := h
  have hb1 := ok.b1
  have hb6 := ok.b6
  have lsg : c.sg.length ≤ 64 := by
    rw [ok.ln]
    exact Nat.le_trans (Nat.pow_le_pow_right (by decide) hb6) (by decide)
  have lsl : c.sg.length ≤ sizeLine := smallS (by omega)
  unfold t_Code___init__
  walk_at "rd"
  refine ⟨c.sg, rfl, by omega, ok.sgs, hnd, fun H1 s1 => ?_⟩
  walk_at "rd"
  refine r_lenUS lsl ?_
  walk_at "rd"
  rw [show ((c.sg.length : Nat) : Int) = ((2 ^ c.sb : Nat) : Int) by rw [ok.ln], bits_at hb1 hb6]
  refine r_iteNT ?_
  walk_at "rx"
  refine r_seqC (fun σ G => σ = [some (.ref a), some (.str c.sg), some (.str c.pd), some (.int c.wd), none, none] ∧ G = H1) ?_ fun N tail => ?_
  · rintro σ G ⟨rfl, rfl⟩
    walk_at "rd"
    refine ⟨_, _, _, _, rfl, T.C_Code_r, T.C_Code_v_WIDEST.choose_spec, ?_⟩
    walk_at "rd"
    refine ⟨_, _, 0, 76, rfl, .int c.wd, ?_⟩
    rw [show isW 0 76 (.int (c.wd : Int)) = true by
      show (decide ((0 : Int) ≤ c.wd) && decide ((c.wd : Int) ≤ 76)) = true
      rw [decide_eq_true (show (0 : Int) ≤ (c.wd : Int) by omega), decide_eq_true (show (c.wd : Int) ≤ 76 by have := ok.wd76; omega)]; rfl]
    walk_at "rd"
    refine And.intro (by show 3 ≤ sizeLine; decide) ?_
    intro tp ntp
    generalize hgt : upd _ tp _ = Ht
    have st := same_of hgt ntp
    have vt := at_of hgt
    clear hgt
    have hat := st _ _ (s1 _ _ ha)
    have ntpa : tp ≠ a := (ne_of_none (s1 _ _ ha) ntp).symm
    walk_at "rd"
    refine ⟨a, T.C_Code, dx, [], rfl, hat, T.C_Code_c, T.C_Code_n_parts, by decide, ?_⟩
    generalize hg3 : upd Ht a _ = H3
    have b3 : SameB a Ht H3 := sameB_of hg3
    have h3a : H3 a = some (.ins T.C_Code dx [("parts", .ref tp)]) := at_of hg3
    have h3t : H3 tp = some (.tup [.str c.sg, .str c.pd, .int c.wd]) := b3 _ _ ntpa vt
    clear hg3
    walk_at "rd"
    show iEnumU K (tCons (tVar 1) tNil) _ H3 _
    refine r_enumS ?_
    walk_at "rd"
    refine ⟨c.sg, rfl, fun D nD => ?_⟩
    refine d_it walk_pairs (fun i G => (∃ kvs, G D = some (.dK kvs) ∧ kvs.length ≤ i ∧ (∀ z : Str, (∀ (j ch : Nat), j < i → c.sg.cps.toList[j]? = some ch → z ≠ ⟨#[ch]⟩) → valV kvs (.inr z) = none) ∧ ∀ (j ch : Nat), j < i → c.sg.cps.toList[j]? = some ch → valV kvs (.inr ⟨#[ch]⟩) = some (.int (j : Nat))) ∧ Same H3 G) ⟨⟨[], upd_same, Nat.le_refl _, fun z _ => rfl, fun j ch hj => absurd hj (Nat.not_lt_zero _)⟩, same_new nD⟩ (fun _ _ _ _ => trivial) ?_ ?_
    · rintro i x G G' hi ⟨⟨kvs, hk, lk, no, lo⟩, sG⟩ ⟨Tp, u, v, rfl, nT, hG', ea, eb⟩
      have hsT := same_of hG'.symm nT
      have hvT := at_of hG'.symm
      clear hG'
      cases ea
      unfold sgn at eb
      obtain ⟨ch, hch, rfl⟩ := Option.map_eq_some_iff.mp eb
      walk_at "rd"
      refine ⟨rfl, ?_⟩
      walk_at "rd"
      have hi' : i < c.sg.length := hi
      refine ⟨kvs, .inr ⟨#[ch]⟩, rfl, hsT _ _ hk, Nat.lt_of_le_of_lt lk (Nat.lt_of_lt_of_le hi' lsl), ⟨_, upd_same, ?_, ?_, ?_⟩, same_mut (sG.trans hsT) nD⟩
      · have := length_putK kvs (.inr ⟨#[ch]⟩) (.int (i : Nat))
        omega
      · intro z hz
        rw [valV_put]
        have hch' : c.sg.cps.toList[i]? = some ch := by rw [Array.getElem?_toList]; exact hch
        rw [if_neg (fun e => hz i ch (Nat.lt_succ_self i) hch' (Sum.inr.inj e))]
        exact no z fun j ch2 hj h2 => hz j ch2 (by omega) h2
      · intro j ch2 hj hj2
        rw [valV_put]
        have hch' : c.sg.cps.toList[i]? = some ch := by rw [Array.getElem?_toList]; exact hch
        by_cases e : j = i
        · subst e
          rw [hch'] at hj2
          rw [← Option.some.inj hj2, if_pos rfl]
        · rw [if_neg ?_]
          · exact lo j ch2 (by omega) hj2
          · intro z
            have z2 : ch2 = ch := by
              have := congrArg (fun k : Key => match k with | .inr s => s.cps.toList | .inl _ => []) z
              have : [ch2] = [ch] := this
              exact (List.cons.inj this).1
            subst z2
            obtain ⟨l1, g1⟩ := List.getElem?_eq_some_iff.mp hj2
            obtain ⟨l2, g2⟩ := List.getElem?_eq_some_iff.mp hch'
            exact e ((List.getElem_inj hnd).mp (g1.trans g2.symm))
    rintro G4 ⟨⟨kvs, hk, lk, no, lo⟩, sG⟩
    walk_at "rd"
    refine ⟨a, T.C_Code, dx, _, rfl, sG _ _ h3a, T.C_Code_c, T.C_Code_n_digits, (by show 1 < 1000; decide), ?_⟩
    generalize hg5 : upd G4 a _ = H5
    have b5 : SameB a G4 H5 := sameB_of hg5
    have h5a : H5 a = some (.ins T.C_Code dx [("parts", .ref tp), ("digits", .ref D)]) := at_of hg5
    have nDa : D ≠ a := (ne_of_none h3a nD).symm
    have h5D := b5 _ _ nDa hk
    have h5t : H5 tp = some (.tup [.str c.sg, .str c.pd, .int c.wd]) := b5 _ _ ntpa (sG _ _ h3t)
    clear hg5
    walk_at "rd"
    refine r_lenUS lsl ?_
    rw [ok.ln]
    refine r_ixID (bits_at hb1 hb6) ?_
    walk_at "rd"
    refine ⟨a, T.C_Code, dx, _, rfl, h5a, T.C_Code_c, T.C_Code_n_sign_bits, (by show 2 < 1000; decide), ?_⟩
    generalize hg6 : upd H5 a _ = H6
    have b6 : SameB a H5 H6 := sameB_of hg6
    have h6a : H6 a = some (.ins T.C_Code dx [("parts", .ref tp), ("digits", .ref D), ("sign_bits", .int c.sb)]) := at_of hg6
    have h6t := b6 _ _ ntpa h5t
    have h6D := b6 _ _ nDa h5D
    have lo2 : Dig c kvs := ⟨fun j ch hj => lo j ch (by
      have := (List.getElem?_eq_some_iff.mp hj).1
      rw [Array.length_toList] at this
      exact this) hj, fun z hz => no z fun j ch _ hj => hz ch (List.mem_of_getElem? hj)⟩
    clear hg6
    exact q H6 (((toB (s1.trans st)).trans b3).trans ((toB sG).trans (b5.trans b6))) ⟨ok, dx, tp, D, kvs, h6a, h6t, h6D, lo2⟩
  · walk_at "rx"
    have pn : (c.pd = Str.ofString "") ↔ c.pd.cps.toList = [] := by
      rw [e_tx]
      constructor
      · intro z; rw [z, tx_list]
      · intro z; rw [tx_of c.pd, z]
    have fin : (if (!true) = true then True else True) := trivial
    refine r_iteND (fun h => ?_) (fun h => ?_)
    · have hne : c.pd.cps.toList ≠ [] := fun z => h (pn.mpr z)
      have ep := pad_eq ok hne
      have mp : c.pd.cps.toList.getD 0 0 ∈ c.pd.cps.toList := by
        cases hl : c.pd.cps.toList with
        | nil => exact absurd hl hne
        | cons x r => exact List.mem_cons_self
      walk_at "rx"
      refine ⟨[c.pd.cps.toList.getD 0 0], by rw [← ep]; rfl, Nat.le_refl _, ?_⟩
      rw [show isSg [c.pd.cps.toList.getD 0 0] = true from decide_eq_true (ok.pds _ mp)]
      walk_at "rx"
      refine r_inS ⟨c.pd.cps.toList.getD 0 0, c.sg, ep ▸ rfl, rfl, ?_⟩
      rw [decide_eq_false (hpn _ mp)]
      walk_at "rx"
      exact tail _ _ ⟨rfl, rfl⟩
    · walk_at "rx"
      exact tail _ _ ⟨rfl, rfl⟩
theorem ok_Code___init__ (T : Txt K mg) : FnOk P w K mg base CX0 3 T.Code___init___a T.Code___init___d ["self", "signs", "pad", "width"] (sp_Code___init__ T) := by
  refine T.Code___init___f.ok sc_Code___init__ (fun vs H Q E h => len_Code___init__ T vs H Q E h) (fun cdv A outer s H vs Q E hr h => ⟨t_Code___init__ T, PSs.nox ?_, pure_Code___init__ T vs H Q E h⟩)
  have hu := hu64 hr
  exact (pss_cons (ps_if (PW.pt (pw_or (pt_not (pt_val (pe_call (ok_are_signs T) (hr.mono (by decide)) (by rfl) T.are_signs_g T.are_signs_f.kp T.are_signs_b .nil pass0 (pa_cons (pv 1) pa_nil)))) (pw_or1 (pt_cmpR (op_notInID T.k_BITS_d) (pe_callB c_lenU (by rfl) T.n_len (by decide +kernel) (pa_cons (pv 1) pa_nil)) (pe_glob (by rfl) T.k_BITS_g rfl) (by rfl))))) (pss_one ps_never) pss_nil)
      (pss_cons (ps_if (PW.pt (pw_or (PW.pt (pw_and (pt_cmpR (op_neU hu) (pv 2) pe_str (nomark _)) (pw_and1 (PW.pt (pw_or (pt_not (pt_val (pe_call (ok_is_sign T) (hr.mono (by decide)) (by rfl) T.is_sign_g T.is_sign_f.kp T.is_sign_b .nil pass0 (pa_cons (pv 2) pa_nil)))) (pw_or1 (pt_cmpR op_inU (pv 2) (pv 1) (by rfl)))))))) (pw_or1 (pt_not (pt_val (pe_callB call_isi (by rfl) T.n_isinstance (by decide +kernel) (pa_cons (pv 2) (pa_cons (pe_bltn (v := .ty "str") (by rfl) T.n_str (by decide +kernel) rfl) pa_nil)))))))) (pss_one ps_never) pss_nil)
      (pss_cons (ps_if (pt_not (pt_val (pe_call (ok_is_within T) (hr.mono (by decide)) (by rfl) T.is_within_g T.is_within_f.kp T.is_within_b .nil pass0 (pa_cons (pv 3) (pa_cons pe_int (pa_cons (ClX.pe_cval (pe_glob (by rfl) T.C_Code_g rfl)) pa_nil)))))) (pss_one ps_never) pss_nil)
      (pss_cons (ps_fld (pv 0) (pe_tup (pa_cons (pv 1) (pa_cons (pv 2) (pa_cons (pv 3) pa_nil)))) rfl)
      (pss_cons (ps_fld (pv 0) (pe_dc (own := [("digit", 4), ("sign", 5)]) (g := (gTup K 2 (gCons (gName 4) (gCons (gName 5) gNil)))) (tt := tYes) rfl sc_Code___init__.nd (pi_enumU (by rfl) T.n_enumerate (pa_cons (pv 1) pa_nil)) (blkOk_by (own := [("digit", 4), ("sign", 5)]) (N := ["self", "signs", "pad", "width", "digit", "sign"]) (sc := defScope s_Code___init__) (by decide +kernel)) (fun _ _ _ _ _ => (pg_tup (by rfl) (pgs_cons (pg_name (i := 4) sc_Code___init__.nd rfl (.inl rfl)) (pgs_cons (pg_name (i := 5) sc_Code___init__.nd rfl (.inl rfl)) pgs_nil)))) (fun _ _ _ _ _ => pts_nil) (fun _ _ _ _ _ => (pv 5)) (fun _ _ _ _ _ => (pv 4))) rfl)
      (pss_one (ps_fld (pv 0) (pe_ixID T.k_BITS_d (pe_glob (by rfl) T.k_BITS_g rfl) (pe_callB c_lenU (by rfl) T.n_len (by decide +kernel) (pa_cons (pv 1) pa_nil)) (fun _ _ => rfl)) rfl)))))))


end
section
variable {w : World} {K : PySem.W.Frag} {mg : Str → Option Value} {base : Heap}
local macro_rules | `(tactic| walk_at "hc") => `(tactic| first
  | assumption
  | ((refine CodeAt.same (H := ?xH) ?xb ?xa); (case xa => assumption); (case xb => walk_at "hc")))
local macro_rules | `(tactic| walk_at "rd0") => `(tactic| first
  | ((with_reducible refine r_get (a := ?xa) (c := ?xc) ?x1 ?x2 ?_); (case x1 => rfl); (case x2 => walk_at "hc"))
  | ((with_reducible refine r_methC (a := ?xa) (c := ?xc) ?x1 ?x2 ?x3 ?_); (case x1 => rfl); (case x2 => walk_at "hc"); (case x3 => (intro _ _ _; rfl)))
  | (with_reducible refine r_fmtB ?_)
  | (with_reducible refine r_dget ?_)
  | (with_reducible refine r_m0 ?_)
  | (with_reducible refine r_makeK ?_)
  | (with_reducible refine r_cval ?_)
  | (with_reducible refine r_sfld ?_)
  | (with_reducible refine r_isiI ?_)
  | (with_reducible refine r_isiIB ?_)
  | (with_reducible refine r_isiS ?_)
  | (with_reducible refine r_inID ?_))

/-! ### rules of reading -/
structure RD where
  pads : Str
  skip : List Nat
  lines : Bool
  loose : Bool
  fold : Bool
def padsOk (z : Str) : Prop := z = Str.ofString "full" ∨ z = Str.ofString "none" ∨ z = Str.ofString "optional" ∨ z = Str.ofString "any"
structure RD.Ok (r : RD) : Prop where
  pd : padsOk r.pads
  ch : ∀ c ∈ r.skip, Ch c
  nd : r.skip.Nodup
  ln : r.skip.length ≤ 100
local macro_rules | `(tactic| walk_at "kd") => `(tactic| (intro z; exact absurd (Sum.inr.inj z) (by decide +kernel)))
def optKvs (r : RD) : List (Key × V) := [(.inr (Str.ofString "pads"), .str r.pads), (.inr (Str.ofString "skip"), .str (tx r.skip)), (.inr (Str.ofString "lines"), .bl r.lines), (.inr (Str.ofString "loose"), .bl r.loose), (.inr (Str.ofString "fold"), .bl r.fold)]
theorem opt_pads (r : RD) : valV (optKvs r) (.inr (Str.ofString "pads")) = some (.str r.pads) := valV_pos rfl
theorem opt_skip (r : RD) : valV (optKvs r) (.inr (Str.ofString "skip")) = some (.str (tx r.skip)) := (valV_neg (by walk_at "kd")).trans (valV_pos rfl)
theorem opt_lines (r : RD) : valV (optKvs r) (.inr (Str.ofString "lines")) = some (.bl r.lines) := (valV_neg (by walk_at "kd")).trans ((valV_neg (by walk_at "kd")).trans (valV_pos rfl))
theorem opt_loose (r : RD) : valV (optKvs r) (.inr (Str.ofString "loose")) = some (.bl r.loose) := (valV_neg (by walk_at "kd")).trans ((valV_neg (by walk_at "kd")).trans ((valV_neg (by walk_at "kd")).trans (valV_pos rfl)))
theorem opt_fold (r : RD) : valV (optKvs r) (.inr (Str.ofString "fold")) = some (.bl r.fold) := (valV_neg (by walk_at "kd")).trans ((valV_neg (by walk_at "kd")).trans ((valV_neg (by walk_at "kd")).trans ((valV_neg (by walk_at "kd")).trans (valV_pos rfl))))
theorem put_new {kvs : List (Key × V)} {k : Key} {v : V} (h : ∀ p ∈ kvs, p.1 ≠ k) : putK kvs k v = kvs ++ [(k, v)] := by
  unfold putK
  rw [if_neg]
  intro z
  obtain ⟨p, hp, e⟩ := List.any_eq_true.mp z
  exact h p hp (of_decide_eq_true e)
theorem merge_opt (r : RD) : mergeK [] (optKvs r) = optKvs r := by
  unfold mergeK optKvs
  simp only [List.foldl_cons, List.foldl_nil]
  rw [put_new (kvs := []) (fun p hp => nomatch hp), List.nil_append]
  rw [put_new (kvs := [_]) (fun p hp => by simp only [List.mem_cons, List.not_mem_nil, or_false] at hp; subst hp; walk_at "kd")]
  rw [List.singleton_append]
  rw [put_new (kvs := [_, _]) (fun p hp => by simp only [List.mem_cons, List.not_mem_nil, or_false] at hp; rcases hp with rfl | rfl <;> walk_at "kd")]
  simp only [List.cons_append, List.nil_append]
  rw [put_new (kvs := [_, _, _]) (fun p hp => by simp only [List.mem_cons, List.not_mem_nil, or_false] at hp; rcases hp with rfl | rfl | rfl <;> walk_at "kd")]
  simp only [List.cons_append, List.nil_append]
  rw [put_new (kvs := [_, _, _, _]) (fun p hp => by simp only [List.mem_cons, List.not_mem_nil, or_false] at hp; rcases hp with rfl | rfl | rfl | rfl <;> walk_at "kd")]
  rfl
def OptAt (T : Txt K mg) (H : Hp) (a : Addr) (r : RD) : Prop := ∃ dx D, H a = some (.ins T.C_Rules dx [("options", .ref D)]) ∧ H D = some (.dK (optKvs r))
def RulesAt (T : Txt K mg) (H : Hp) (a : Addr) (r : RD) : Prop := r.Ok ∧ OptAt T H a r
theorem OptAt.same {T : Txt K mg} {H H' : Hp} {a : Addr} {r : RD} (h : OptAt T H a r) (s : Same H H') : OptAt T H' a r := by
  obtain ⟨dx, D, h1, h2⟩ := h
  exact ⟨dx, D, s _ _ h1, s _ _ h2⟩
theorem RulesAt.same {T : Txt K mg} {H H' : Hp} {a : Addr} {r : RD} (h : RulesAt T H a r) (s : Same H H') : RulesAt T H' a r := ⟨h.1, h.2.same s⟩
def sp_is_option (T : Txt K mg) : Sp := fun vs H Q _ => ∃ (n : Str) (v : V), vs = [.str n, v] ∧
  ((n = Str.ofString "pads" ∧ ∃ z, v = .str z ∧ padsOk z) ∨ (n = Str.ofString "skip" ∧ ∃ l, v = .str (tx l) ∧ (∀ c ∈ l, Ch c) ∧ l.Nodup ∧ l.length ≤ 100) ∨ ((n = Str.ofString "lines" ∨ n = Str.ofString "loose" ∨ n = Str.ofString "fold") ∧ ∃ b, v = .bl b)) ∧ ∀ H', Same H H' → Q (.bl true) H'
theorem len_is_option (T : Txt K mg) (vs : List V) (H : Hp) (Q : VK) (E : XK) (h : sp_is_option T vs H Q E) : vs.length = 2 := by
  obtain ⟨_, _, rfl, _⟩ := h
  rfl
def t_is_option (T : Txt K mg) : TS := (tSeq (tIfS (tTest (tOp (rEqU K) (tVar 0) (tC (.str (Str.ofString "pads"))))) (tRet (tAndV (tCB (rIsi K) (tCons (tVar 1) (tCons (tC (.ty "str")) tNil))) (tOp (rInU K) (tVar 1) (tC (.ref T.k_PADS_a))))) tNext)
    (tSeq (tIfS (tTest (tOp (rEqU K) (tVar 0) (tC (.str (Str.ofString "skip"))))) (tRet (tCall (sp_are_characters T) [] E0 (tCons (tVar 1) tNil))) tNext)
    (tRet (tCB (rIsi K) (tCons (tVar 1) (tCons (tC (.ty "bool")) tNil))))))

theorem pure_is_option (T : Txt K mg) (vs : List V) (H : Hp) (Q : VK) (E : XK) (h : sp_is_option T vs H Q E) : t_is_option T { nx := fun _ H' => Q .non H', rt := Q } (start ["name", "value"] vs) H := by
  obtain ⟨n, v, rfl, h, q⟩ := h
  unfold t_is_option
  walk_at "rd"
  rcases h with ⟨rfl, z, rfl, hz⟩ | ⟨rfl, l, rfl, hc, hn, hl⟩ | ⟨hn, b, rfl⟩
  · rw [show decide (Str.ofString "pads" = Str.ofString "pads") = true from rfl]
    walk_at "rd"
    refine .inr ⟨_, _, rfl, .inr (T.k_PADS_t H), rfl, by rfl, ?_⟩
    have e : inV (.str z) [V.str (Str.ofString "full"), .str (Str.ofString "none"), .str (Str.ofString "optional"), .str (Str.ofString "any")] = true := by
      rcases hz with rfl | rfl | rfl | rfl <;> decide +kernel
    rw [e]
    exact q H (Same.refl H)
  · rw [show decide (Str.ofString "skip" = Str.ofString "pads") = false by decide +kernel]
    walk_at "rd"
    rw [show decide (Str.ofString "skip" = Str.ofString "skip") = true from rfl]
    walk_at "rd"
    exact ⟨tx l, rfl, by rw [tx_len]; omega, by rw [tx_list]; exact hc, by rw [tx_list]; exact hn, q⟩
  · have n1 : decide (n = Str.ofString "pads") = false := by rcases hn with rfl | rfl | rfl <;> decide +kernel
    have n2 : decide (n = Str.ofString "skip") = false := by rcases hn with rfl | rfl | rfl <;> decide +kernel
    rw [n1]
    walk_at "rd"
    rw [n2]
    walk_at "rd"
    exact r_isiBB (q H (Same.refl H))
theorem ok_is_option (T : Txt K mg) : FnOk P w K mg base CX0 2 T.is_option_a T.is_option_d ["name", "value"] (sp_is_option T) := by
  refine T.is_option_f.ok sc_is_option (fun vs H Q E h => len_is_option T vs H Q E h) (fun cdv A outer s H vs Q E hr h => ⟨t_is_option T, PSs.nox ?_, pure_is_option T vs H Q E h⟩)
  have hu := hu64 hr
  exact (pss_cons (ps_if (pt_cmpR (op_eqU hu) (pv 0) pe_str (nomark _)) (pss_one (ps_ret (pe_and (pe_callB call_isi (by rfl) T.n_isinstance (by decide +kernel) (pa_cons (pv 1) (pa_cons (pe_bltn (v := .ty "str") (by rfl) T.n_str (by decide +kernel) rfl) pa_nil))) (pe_one (pe_cmpR op_inU (pv 1) (pe_glob (by rfl) T.k_PADS_g rfl) (by rfl)))))) pss_nil)
      (pss_cons (ps_if (pt_cmpR (op_eqU hu) (pv 0) pe_str (nomark _)) (pss_one (ps_ret (pe_call (ok_are_characters T) (hr.mono (by decide)) (by rfl) T.are_characters_g T.are_characters_f.kp T.are_characters_b .nil pass0 (pa_cons (pv 1) pa_nil)))) pss_nil)
      (pss_one (ps_ret (pe_callB call_isi (by rfl) T.n_isinstance (by decide +kernel) (pa_cons (pv 1) (pa_cons (pe_bltn (v := .ty "bool") (by rfl) T.n_bool (by decide +kernel) rfl) pa_nil)))))))

def sp_Rules___init__ (T : Txt K mg) : Sp := fun vs H Q _ => ∃ (a dx : Addr) (r : RD), vs = [.ref a, .str r.pads, .str (tx r.skip), .bl r.lines, .bl r.loose, .bl r.fold] ∧ H a = some (.ins T.C_Rules dx []) ∧ r.Ok ∧ ∀ H', SameB a H H' → RulesAt T H' a r → Q .non H'
theorem len_Rules___init__ (T : Txt K mg) (vs : List V) (H : Hp) (Q : VK) (E : XK) (h : sp_Rules___init__ T vs H Q E) : vs.length = 6 := by
  obtain ⟨_, _, _, rfl, _⟩ := h
  rfl
def t_Rules___init__ (T : Txt K mg) : TS := (tSeq (sFld K (tVar 0) (tDisp [((tC (.str (Str.ofString "pads"))), (tVar 1)), ((tC (.str (Str.ofString "skip"))), (tVar 2)), ((tC (.str (Str.ofString "lines"))), (tVar 3)), ((tC (.str (Str.ofString "loose"))), (tVar 4)), ((tC (.str (Str.ofString "fold"))), (tVar 5))]) "options")
    (tFor (iSeqU K (tC (.ref T.k_OPTIONS_a))) (gName 6) (tIfS (tNot (tB (tCall (sp_is_option T) [] E0 (tCons (tVar 6) (tCons (tDGet (tFld K (tVar 0) "options") (tVar 6)) tNil))))) tNever tNext)))

theorem pure_Rules___init__ (T : Txt K mg) (vs : List V) (H : Hp) (Q : VK) (E : XK) (h : sp_Rules___init__ T vs H Q E) : t_Rules___init__ T { nx := fun _ H' => Q .non H', rt := Q } (start ["self", "pads", "skip", "lines", "loose", "fold", "name"] vs) H := by
  obtain ⟨a, dx, r, rfl, ha, ok, q⟩ := h
  unfold t_Rules___init__
  walk_at "rd"
  intro D nD
  refine ⟨_, rfl, _, rfl, _, rfl, _, rfl, _, rfl, upd_same, optKvs r, rfl, by show 5 ≤ 15; decide, ?_⟩
  rw [merge_opt]
  generalize hg : upd (upd H D _) D _ = H1
  have s1 : Same H H1 := by rw [← hg]; exact same_mut (same_new nD) nD
  have v1 : H1 D = some (.dK (optKvs r)) := by rw [← hg]; exact upd_same
  clear hg
  have ha1 := s1 _ _ ha
  walk_at "rd"
  refine ⟨a, T.C_Rules, dx, [], rfl, ha1, T.C_Rules_c, T.C_Rules_n_options, by decide, ?_⟩
  generalize hg : upd H1 a _ = H2
  have b2 : SameB a H1 H2 := sameB_of hg
  have h2a : H2 a = some (.ins T.C_Rules dx [("options", .ref D)]) := at_of hg
  clear hg
  have nDa : D ≠ a := (ne_of_none ha nD).symm
  have h2D : H2 D = some (.dK (optKvs r)) := b2 _ _ nDa v1
  walk_at "rd"
  refine r_iseqT ?_
  walk_at "rd"
  refine ⟨_, rfl, ⟨_, T.k_OPTIONS_t H2⟩, ?_⟩
  refine f_it (walk_tup (K := K) (a := T.k_OPTIONS_a) (xs := [.str (Str.ofString "pads"), .str (Str.ofString "skip"), .str (Str.ofString "lines"), .str (Str.ofString "loose"), .str (Str.ofString "fold")])) (fun i σ G => ∃ v6, σ = [some (.ref a), some (.str r.pads), some (.str (tx r.skip)), some (.bl r.lines), some (.bl r.loose), some (.bl r.fold), v6] ∧ Same H2 G)
    ⟨none, rfl, Same.refl H2⟩ (fun i σ G _ _ => T.k_OPTIONS_t G) ?_ ?_
  · rintro i x σ G G' hi ⟨v6, rfl, sG⟩ ⟨rfl, hx⟩
    have gD := sG _ _ h2D
    have ga := sG _ _ h2a
    have fin : ∀ H', Same G' H' → ∃ v6', [some (V.ref a), some (.str r.pads), some (.str (tx r.skip)), some (.bl r.lines), some (.bl r.loose), some (.bl r.fold), some x] = [some (V.ref a), some (.str r.pads), some (.str (tx r.skip)), some (.bl r.lines), some (.bl r.loose), some (.bl r.fold), v6'] ∧ Same H2 H' := fun H' s => ⟨_, rfl, sG.trans s⟩
    have step : ∀ (n : Str) (v : V), x = .str n → valV (optKvs r) (.inr n) = some v →
        ((n = Str.ofString "pads" ∧ ∃ z, v = .str z ∧ padsOk z) ∨ (n = Str.ofString "skip" ∧ ∃ l, v = .str (tx l) ∧ (∀ c ∈ l, Ch c) ∧ l.Nodup ∧ l.length ≤ 100) ∨ ((n = Str.ofString "lines" ∨ n = Str.ofString "loose" ∨ n = Str.ofString "fold") ∧ ∃ b, v = .bl b)) →
        DGet G' D (.str n) (some v) := fun n v _ e _ => by
      have := DGet.k (k := .inr n) gD
      rw [e] at this
      exact this
    walk_at "rd"
    refine r_fldI rfl ga T.C_Rules_c T.C_Rules_n_options rfl ?_
    walk_at "rd"
    match i, hx with
    | 0, hx =>
      cases hx
      refine ⟨D, _, rfl, step _ _ rfl (opt_pads r) (.inl ⟨rfl, _, rfl, ok.pd⟩), ?_⟩
      refine ⟨_, _, rfl, .inl ⟨rfl, _, rfl, ok.pd⟩, fun H' s => ?_⟩
      walk_at "rd"
      exact fin H' s
    | 1, hx =>
      cases hx
      refine ⟨D, _, rfl, step _ _ rfl (opt_skip r) (.inr (.inl ⟨rfl, _, rfl, ok.ch, ok.nd, ok.ln⟩)), ?_⟩
      refine ⟨_, _, rfl, .inr (.inl ⟨rfl, _, rfl, ok.ch, ok.nd, ok.ln⟩), fun H' s => ?_⟩
      walk_at "rd"
      exact fin H' s
    | 2, hx =>
      cases hx
      refine ⟨D, _, rfl, step _ _ rfl (opt_lines r) (.inr (.inr ⟨.inl rfl, _, rfl⟩)), ?_⟩
      refine ⟨_, _, rfl, .inr (.inr ⟨.inl rfl, _, rfl⟩), fun H' s => ?_⟩
      walk_at "rd"
      exact fin H' s
    | 3, hx =>
      cases hx
      refine ⟨D, _, rfl, step _ _ rfl (opt_loose r) (.inr (.inr ⟨.inr (.inl rfl), _, rfl⟩)), ?_⟩
      refine ⟨_, _, rfl, .inr (.inr ⟨.inr (.inl rfl), _, rfl⟩), fun H' s => ?_⟩
      walk_at "rd"
      exact fin H' s
    | 4, hx =>
      cases hx
      refine ⟨D, _, rfl, step _ _ rfl (opt_fold r) (.inr (.inr ⟨.inr (.inr rfl), _, rfl⟩)), ?_⟩
      refine ⟨_, _, rfl, .inr (.inr ⟨.inr (.inr rfl), _, rfl⟩), fun H' s => ?_⟩
      walk_at "rd"
      exact fin H' s
    | i + 5, hx => cases hx
  · rintro σ G ⟨v6, rfl, sG⟩
    walk_at "rd"
    exact q G ((toB s1).trans (b2.trans (toB sG))) ⟨ok, dx, D, sG _ _ h2a, sG _ _ h2D⟩
theorem ok_Rules___init__ (T : Txt K mg) : FnOk P w K mg base CX0 3 T.Rules___init___a T.Rules___init___d ["self", "pads", "skip", "lines", "loose", "fold"] (sp_Rules___init__ T) := by
  refine T.Rules___init___f.ok sc_Rules___init__ (fun vs H Q E h => len_Rules___init__ T vs H Q E h) (fun cdv A outer s H vs Q E hr h => ⟨t_Rules___init__ T, PSs.nox ?_, pure_Rules___init__ T vs H Q E h⟩)
  have hu := hu64 hr
  exact (pss_cons (ps_fld (pv 0) (pe_disp (pps_cons pe_str (pv 1) (pps_cons pe_str (pv 2) (pps_cons pe_str (pv 3) (pps_cons pe_str (pv 4) (pps_cons pe_str (pv 5) pps_nil))))) (by rfl) (by rfl) (fun h => nomatch h) (by decide)) rfl)
      (pss_one (ps_for PassesOwn.never rfl (pi_seqU (pe_glob (by rfl) T.k_OPTIONS_g rfl)) (pg_name (i := 6) sc_Rules___init__.nd rfl (.inl rfl)) (pss_one (ps_if (pt_not (pt_val (pe_call (ok_is_option T) (hr.mono (by decide)) (by rfl) T.is_option_g T.is_option_f.kp T.is_option_b .nil pass0 (pa_cons (pv 6) (pa_cons (pe_dget (hu_of hr) (pe_fld (pv 0) rfl) (pv 6) (fun _ _ => rfl)) pa_nil))))) (pss_one ps_never) pss_nil)))))

def spR (T : Txt K mg) (g : RD → V) : Sp := fun vs H Q _ => ∃ a r, vs = [.ref a] ∧ RulesAt T H a r ∧ Q (g r) H
theorem len_spR (T : Txt K mg) (g : RD → V) (vs : List V) (H : Hp) (Q : VK) (E : XK) (h : spR T g vs H Q E) : vs.length = 1 := by
  obtain ⟨_, _, rfl, _⟩ := h
  rfl
abbrev sp_Rules_pads (T : Txt K mg) : Sp := spR T fun r => .str r.pads
abbrev sp_Rules_skip (T : Txt K mg) : Sp := spR T fun r => .str (tx r.skip)
abbrev sp_Rules_lines (T : Txt K mg) : Sp := spR T fun r => .bl r.lines
abbrev sp_Rules_loose (T : Txt K mg) : Sp := spR T fun r => .bl r.loose
abbrev sp_Rules_fold (T : Txt K mg) : Sp := spR T fun r => .bl r.fold
theorem len_Rules_pads (T : Txt K mg) (vs : List V) (H : Hp) (Q : VK) (E : XK) (h : sp_Rules_pads T vs H Q E) : vs.length = 1 := len_spR T _ vs H Q E h
theorem len_Rules_skip (T : Txt K mg) (vs : List V) (H : Hp) (Q : VK) (E : XK) (h : sp_Rules_skip T vs H Q E) : vs.length = 1 := len_spR T _ vs H Q E h
theorem len_Rules_lines (T : Txt K mg) (vs : List V) (H : Hp) (Q : VK) (E : XK) (h : sp_Rules_lines T vs H Q E) : vs.length = 1 := len_spR T _ vs H Q E h
theorem len_Rules_loose (T : Txt K mg) (vs : List V) (H : Hp) (Q : VK) (E : XK) (h : sp_Rules_loose T vs H Q E) : vs.length = 1 := len_spR T _ vs H Q E h
theorem len_Rules_fold (T : Txt K mg) (vs : List V) (H : Hp) (Q : VK) (E : XK) (h : sp_Rules_fold T vs H Q E) : vs.length = 1 := len_spR T _ vs H Q E h
theorem opt_of {T : Txt K mg} {H : Hp} {a : Addr} {r : RD} {σ : S} {i : Nat} {n : Str} {v : V} {Q : VK} (h0 : σ[i]? = some (some (.ref a))) (h : RulesAt T H a r) (e : valV (optKvs r) (.inr n) = some v) (q : Q v H) : tDGet (tFld K (tVar i) "options") (tC (.str n)) σ H Q := by
  obtain ⟨_, dx, D, h1, h2⟩ := h
  refine r_dget ?_
  refine r_fldI h0 h1 T.C_Rules_c T.C_Rules_n_options rfl ?_
  refine r_c ?_
  refine ⟨D, v, rfl, ?_, q⟩
  have := DGet.k (k := .inr n) h2
  rw [e] at this
  exact this
def t_Rules_pads (T : Txt K mg) : TS := (tRet (tDGet (tFld K (tVar 0) "options") (tC (.str (Str.ofString "pads")))))

theorem pure_Rules_pads (T : Txt K mg) (vs : List V) (H : Hp) (Q : VK) (E : XK) (h : sp_Rules_pads T vs H Q E) : t_Rules_pads T { nx := fun _ H' => Q .non H', rt := Q } (start ["self"] vs) H := by
  obtain ⟨a, r, rfl, hr, q⟩ := h
  unfold t_Rules_pads
  refine r_ret ?_
  exact opt_of rfl hr (opt_pads r) q
theorem ok_Rules_pads (T : Txt K mg) : FnOk P w K mg base CX0 1 T.Rules_pads_a T.Rules_pads_d ["self"] (sp_Rules_pads T) := by
  refine T.Rules_pads_f.ok sc_Rules_pads (fun vs H Q E h => len_Rules_pads T vs H Q E h) (fun cdv A outer s H vs Q E hr h => ⟨t_Rules_pads T, PSs.nox ?_, pure_Rules_pads T vs H Q E h⟩)
  have hu := hu64 hr
  exact (pss_one (ps_ret (pe_dget (hu_of hr) (pe_fld (pv 0) rfl) pe_str (fun _ _ => rfl))))

def t_Rules_skip (T : Txt K mg) : TS := (tRet (tDGet (tFld K (tVar 0) "options") (tC (.str (Str.ofString "skip")))))

theorem pure_Rules_skip (T : Txt K mg) (vs : List V) (H : Hp) (Q : VK) (E : XK) (h : sp_Rules_skip T vs H Q E) : t_Rules_skip T { nx := fun _ H' => Q .non H', rt := Q } (start ["self"] vs) H := by
  obtain ⟨a, r, rfl, hr, q⟩ := h
  unfold t_Rules_skip
  refine r_ret ?_
  exact opt_of rfl hr (opt_skip r) q
theorem ok_Rules_skip (T : Txt K mg) : FnOk P w K mg base CX0 1 T.Rules_skip_a T.Rules_skip_d ["self"] (sp_Rules_skip T) := by
  refine T.Rules_skip_f.ok sc_Rules_skip (fun vs H Q E h => len_Rules_skip T vs H Q E h) (fun cdv A outer s H vs Q E hr h => ⟨t_Rules_skip T, PSs.nox ?_, pure_Rules_skip T vs H Q E h⟩)
  have hu := hu64 hr
  exact (pss_one (ps_ret (pe_dget (hu_of hr) (pe_fld (pv 0) rfl) pe_str (fun _ _ => rfl))))

def t_Rules_lines (T : Txt K mg) : TS := (tRet (tDGet (tFld K (tVar 0) "options") (tC (.str (Str.ofString "lines")))))

theorem pure_Rules_lines (T : Txt K mg) (vs : List V) (H : Hp) (Q : VK) (E : XK) (h : sp_Rules_lines T vs H Q E) : t_Rules_lines T { nx := fun _ H' => Q .non H', rt := Q } (start ["self"] vs) H := by
  obtain ⟨a, r, rfl, hr, q⟩ := h
  unfold t_Rules_lines
  refine r_ret ?_
  exact opt_of rfl hr (opt_lines r) q
theorem ok_Rules_lines (T : Txt K mg) : FnOk P w K mg base CX0 1 T.Rules_lines_a T.Rules_lines_d ["self"] (sp_Rules_lines T) := by
  refine T.Rules_lines_f.ok sc_Rules_lines (fun vs H Q E h => len_Rules_lines T vs H Q E h) (fun cdv A outer s H vs Q E hr h => ⟨t_Rules_lines T, PSs.nox ?_, pure_Rules_lines T vs H Q E h⟩)
  have hu := hu64 hr
  exact (pss_one (ps_ret (pe_dget (hu_of hr) (pe_fld (pv 0) rfl) pe_str (fun _ _ => rfl))))

def t_Rules_loose (T : Txt K mg) : TS := (tRet (tDGet (tFld K (tVar 0) "options") (tC (.str (Str.ofString "loose")))))

theorem pure_Rules_loose (T : Txt K mg) (vs : List V) (H : Hp) (Q : VK) (E : XK) (h : sp_Rules_loose T vs H Q E) : t_Rules_loose T { nx := fun _ H' => Q .non H', rt := Q } (start ["self"] vs) H := by
  obtain ⟨a, r, rfl, hr, q⟩ := h
  unfold t_Rules_loose
  refine r_ret ?_
  exact opt_of rfl hr (opt_loose r) q
theorem ok_Rules_loose (T : Txt K mg) : FnOk P w K mg base CX0 1 T.Rules_loose_a T.Rules_loose_d ["self"] (sp_Rules_loose T) := by
  refine T.Rules_loose_f.ok sc_Rules_loose (fun vs H Q E h => len_Rules_loose T vs H Q E h) (fun cdv A outer s H vs Q E hr h => ⟨t_Rules_loose T, PSs.nox ?_, pure_Rules_loose T vs H Q E h⟩)
  have hu := hu64 hr
  exact (pss_one (ps_ret (pe_dget (hu_of hr) (pe_fld (pv 0) rfl) pe_str (fun _ _ => rfl))))

def t_Rules_fold (T : Txt K mg) : TS := (tRet (tDGet (tFld K (tVar 0) "options") (tC (.str (Str.ofString "fold")))))

theorem pure_Rules_fold (T : Txt K mg) (vs : List V) (H : Hp) (Q : VK) (E : XK) (h : sp_Rules_fold T vs H Q E) : t_Rules_fold T { nx := fun _ H' => Q .non H', rt := Q } (start ["self"] vs) H := by
  obtain ⟨a, r, rfl, hr, q⟩ := h
  unfold t_Rules_fold
  refine r_ret ?_
  exact opt_of rfl hr (opt_fold r) q
theorem ok_Rules_fold (T : Txt K mg) : FnOk P w K mg base CX0 1 T.Rules_fold_a T.Rules_fold_d ["self"] (sp_Rules_fold T) := by
  refine T.Rules_fold_f.ok sc_Rules_fold (fun vs H Q E h => len_Rules_fold T vs H Q E h) (fun cdv A outer s H vs Q E hr h => ⟨t_Rules_fold T, PSs.nox ?_, pure_Rules_fold T vs H Q E h⟩)
  have hu := hu64 hr
  exact (pss_one (ps_ret (pe_dget (hu_of hr) (pe_fld (pv 0) rfl) pe_str (fun _ _ => rfl))))

/-! ### steps over rules -/
theorem r_getR {T : Txt K mg} {g : RD → V} {σ : S} {H : Hp} {Q : VK} {i : Nat} {a : Addr} {r : RD} (h0 : σ[i]? = some (some (.ref a))) (hr : RulesAt T H a r) (h : Q (g r) H) : tProp T.C_Rules (spR T g) [] E0 (tVar i) σ H Q := by
  refine ⟨_, h0, ?_⟩
  obtain ⟨o, dx, D, h1, h2⟩ := id hr
  exact ⟨a, dx, _, rfl, h1, a, r, rfl, hr, h⟩

end
section
variable {w : World} {K : PySem.W.Frag} {mg : Str → Option Value} {base : Heap}
local macro_rules | `(tactic| walk_at "hc") => `(tactic| first
  | assumption
  | ((refine CodeAt.same (H := ?xH) ?xb ?xa); (case xa => assumption); (case xb => walk_at "hc")))
local macro_rules | `(tactic| walk_at "rd0") => `(tactic| first
  | ((with_reducible refine r_get (a := ?xa) (c := ?xc) ?x1 ?x2 ?_); (case x1 => rfl); (case x2 => walk_at "hc"))
  | ((with_reducible refine r_methC (a := ?xa) (c := ?xc) ?x1 ?x2 ?x3 ?_); (case x1 => rfl); (case x2 => walk_at "hc"); (case x3 => (intro _ _ _; rfl)))
  | (with_reducible refine r_fmtB ?_)
  | (with_reducible refine r_dget ?_)
  | (with_reducible refine r_m0 ?_)
  | (with_reducible refine r_makeK ?_)
  | (with_reducible refine r_cval ?_)
  | (with_reducible refine r_sfld ?_)
  | (with_reducible refine r_isiI ?_)
  | (with_reducible refine r_isiIB ?_)
  | (with_reducible refine r_isiS ?_)
  | (with_reducible refine r_inID ?_))

local macro_rules | `(tactic| walk_at "hcr") => `(tactic| first
  | assumption
  | ((refine RulesAt.same (H := ?xH) ?xb ?xa); (case xa => assumption); (case xb => walk_at "hcr")))
local macro_rules | `(tactic| walk_at "rd0") => `(tactic| first
  | ((with_reducible refine r_getR (a := ?xa) (r := ?xr) ?x1 ?x2 ?_); (case x1 => rfl); (case x2 => walk_at "hcr")))

/-! ### rules that suit -/
def rowsC (c : CodeD) (r : RD) : Bool := r.lines && decide (0 < c.wd)
def forC (c : CodeD) (r : RD) (ch : Nat) : Bool := !decide (ch ∈ c.sg.cps.toList) && !decide (tx [ch] = c.pd) && (!r.fold || !inL c (oc ch))
def suitC (c : CodeD) (r : RD) : Bool := !(decide (10 ∈ r.skip) && rowsC c r) && r.skip.all (forC c r)
def sp_Code_has_rows (T : Txt K mg) : Sp := fun vs H Q _ => ∃ a rr c r, vs = [.ref a, .ref rr] ∧ CodeAt T H a c ∧ RulesAt T H rr r ∧ Q (.bl (rowsC c r)) H
theorem len_Code_has_rows (T : Txt K mg) (vs : List V) (H : Hp) (Q : VK) (E : XK) (h : sp_Code_has_rows T vs H Q E) : vs.length = 2 := by
  obtain ⟨_, _, _, _, rfl, _⟩ := h
  rfl
def t_Code_has_rows (T : Txt K mg) : TS := (tRet (tAndV (tProp T.C_Rules (sp_Rules_lines T) [] E0 (tVar 1)) (tOp rGtI (tProp T.C_Code (sp_Code_width T) [] E0 (tVar 0)) (tC (.int 0)))))

theorem pure_Code_has_rows (T : Txt K mg) (vs : List V) (H : Hp) (Q : VK) (E : XK) (h : sp_Code_has_rows T vs H Q E) : t_Code_has_rows T { nx := fun _ H' => Q .non H', rt := Q } (start ["self", "rules"] vs) H := by
  obtain ⟨a, rr, c, r, rfl, hc, hr, q⟩ := h
  unfold t_Code_has_rows
  unfold rowsC at q
  walk_at "rd"
  cases hli : r.lines with
  | false =>
    rw [hli] at q
    walk_at "rd"
    exact q
  | true =>
    rw [hli, Bool.true_and] at q
    walk_at "rd"
    rw [show decide ((c.wd : Int) > 0) = decide (0 < c.wd) from decide_eq_decide.mpr (by omega)]
    exact q
theorem ok_Code_has_rows (T : Txt K mg) : FnOk P w K mg base CX0 3 T.Code_has_rows_a T.Code_has_rows_d ["self", "rules"] (sp_Code_has_rows T) := by
  refine T.Code_has_rows_f.ok sc_Code_has_rows (fun vs H Q E h => len_Code_has_rows T vs H Q E h) (fun cdv A outer s H vs Q E hr h => ⟨t_Code_has_rows T, PSs.nox ?_, pure_Code_has_rows T vs H Q E h⟩)
  have hu := hu64 hr
  exact (pss_one (ps_ret (pe_and (pe_prop (pv 1) T.C_Rules_c T.Rules_lines_p (ok_Rules_lines T) (hr.mono (by decide)) T.Rules_lines_b .nil pass0 rfl) (pe_one (pe_cmpR op_gt (pe_prop (pv 0) T.C_Code_c T.Code_width_p (ok_Code_width T) (hr.mono (by decide)) T.Code_width_b .nil pass0 rfl) pe_int (nomark _))))))

def sp_Code_is_foreign (T : Txt K mg) : Sp := fun vs H Q _ => ∃ a rr c r, ∃ ch : Nat, vs = [.ref a, .ref rr, .str (tx [ch])] ∧ CodeAt T H a c ∧ RulesAt T H rr r ∧ Q (.bl (forC c r ch)) H
theorem len_Code_is_foreign (T : Txt K mg) (vs : List V) (H : Hp) (Q : VK) (E : XK) (h : sp_Code_is_foreign T vs H Q E) : vs.length = 3 := by
  obtain ⟨_, _, _, _, _, rfl, _⟩ := h
  rfl
def t_Code_is_foreign (T : Txt K mg) : TS := (tSeq (tIfS (tOr (tTest (tOp (rInU K) (tVar 2) (tProp T.C_Code (sp_Code_signs T) [] E0 (tVar 0)))) (tTest (tOp (rEqU K) (tVar 2) (tProp T.C_Code (sp_Code_pad T) [] E0 (tVar 0))))) (tRet (tC (.bl false))) tNext)
    (tRet (tOrV (tNotV (tProp T.C_Rules (sp_Rules_fold T) [] E0 (tVar 1))) (tOp (rInOwn T.C_Code (sp_Code___contains__ T) E0 fun b => !b) (tCall (sp_other_case T) [] E0 (tCons (tVar 2) tNil)) (tVar 0)))))

theorem pure_Code_is_foreign (T : Txt K mg) (vs : List V) (H : Hp) (Q : VK) (E : XK) (h : sp_Code_is_foreign T vs H Q E) : t_Code_is_foreign T { nx := fun _ H' => Q .non H', rt := Q } (start ["self", "rules", "character"] vs) H := by
  obtain ⟨a, rr, c, r, ch, rfl, hc, hr, q⟩ := h
  unfold t_Code_is_foreign
  unfold forC at q
  walk_at "rd"
  refine r_inS ⟨ch, _, rfl, rfl, ?_⟩
  by_cases h1 : ch ∈ c.sg.cps.toList
  · rw [decide_eq_true h1] at q ⊢
    walk_at "rd"
    exact q
  rw [decide_eq_false h1] at q ⊢
  walk_at "rd"
  by_cases h2 : tx [ch] = c.pd
  · rw [decide_eq_true h2] at q ⊢
    walk_at "rd"
    exact q
  rw [decide_eq_false h2] at q ⊢
  walk_at "rd"
  have q : Q (.bl (!r.fold || !inL c (oc ch))) H := by
    simpa using q
  cases hf : r.fold with
  | false =>
    rw [hf] at q
    walk_at "rd"
    exact q
  | true =>
    rw [hf] at q
    walk_at "rd"
    refine ⟨ch, rfl, ?_⟩
    walk_at "rd"
    obtain ⟨o, dx, tp, dg, kvs, h1', h2', h3', h4'⟩ := id hc
    refine r_inOwn h1' ⟨a, c, oc ch, rfl, hc, oc_len ch, _, rfl, ?_⟩
    simpa using q
theorem ok_Code_is_foreign (T : Txt K mg) : FnOk P w K mg base CX0 3 T.Code_is_foreign_a T.Code_is_foreign_d ["self", "rules", "character"] (sp_Code_is_foreign T) := by
  refine T.Code_is_foreign_f.ok sc_Code_is_foreign (fun vs H Q E h => len_Code_is_foreign T vs H Q E h) (fun cdv A outer s H vs Q E hr h => ⟨t_Code_is_foreign T, PSs.nox ?_, pure_Code_is_foreign T vs H Q E h⟩)
  have hu := hu64 hr
  exact (pss_cons (ps_if (PW.pt (pw_or (pt_cmpR op_inU (pv 2) (pe_prop (pv 0) T.C_Code_c T.Code_signs_p (ok_Code_signs T) (hr.mono (by decide)) T.Code_signs_b .nil pass0 rfl) (by rfl)) (pw_or1 (pt_cmpR (op_eqU hu) (pv 2) (pe_prop (pv 0) T.C_Code_c T.Code_pad_p (ok_Code_pad T) (hr.mono (by decide)) T.Code_pad_b .nil pass0 rfl) (nomark _))))) (pss_one (ps_ret pe_bl)) pss_nil)
      (pss_one (ps_ret (pe_or (pe_not (pe_prop (pv 1) T.C_Rules_c T.Rules_fold_p (ok_Rules_fold T) (hr.mono (by decide)) T.Rules_fold_b .nil pass0 rfl)) (pe_one (pe_cmpR (op_notInOwn (ok_Code___contains__ T) (hr.mono (by decide)) T.Code___contains___m T.Code___contains___b pass0) (pe_call (ok_other_case T) (hr.mono (by decide)) (by rfl) T.other_case_g T.other_case_f.kp T.other_case_b .nil pass0 (pa_cons (pv 2) pa_nil)) (pv 0) (by rfl)))))))

def sp_Code_suits (T : Txt K mg) : Sp := fun vs H Q _ => ∃ a rr c r, vs = [.ref a, .ref rr] ∧ CodeAt T H a c ∧ RulesAt T H rr r ∧ ∀ H', Same H H' → Q (.bl (suitC c r)) H'
theorem len_Code_suits (T : Txt K mg) (vs : List V) (H : Hp) (Q : VK) (E : XK) (h : sp_Code_suits T vs H Q E) : vs.length = 2 := by
  obtain ⟨_, _, _, _, rfl, _⟩ := h
  rfl
theorem take_map {α β : Type} {f : α → β} {l : List α} {i : Nat} {x : α} (h : l[i]? = some x) : (l.take (i + 1)).map f = (l.take i).map f ++ [f x] := by
  rw [List.take_add_one, h, List.map_append]
  rfl
def t_Code_suits (T : Txt K mg) : TS := (tSeq (tIfS (tOr (tNot (tB (tCB (rIsi K) (tCons (tVar 1) (tCons (tC (.ref T.C_Rules)) tNil))))) (tAnd (tTest (tOp (rInU K) (tC (.str (Str.ofString "\n"))) (tProp T.C_Rules (sp_Rules_skip T) [] E0 (tVar 1)))) (tB (tMeth T.C_Code "has_rows" (sp_Code_has_rows T) [] E0 (tVar 0) (tCons (tVar 1) tNil))))) (tRet (tC (.bl false))) tNext)
    (tRet (tCB (rAll K) (tCons (tLc (iSeqU K (tProp T.C_Rules (sp_Rules_skip T) [] E0 (tVar 1))) (gName 2) tYes (tMeth T.C_Code "is_foreign" (sp_Code_is_foreign T) [] E0 (tVar 0) (tCons (tVar 1) (tCons (tVar 2) tNil))) [2]) tNil))))

theorem pure_Code_suits (T : Txt K mg) (vs : List V) (H : Hp) (Q : VK) (E : XK) (h : sp_Code_suits T vs H Q E) : t_Code_suits T { nx := fun _ H' => Q .non H', rt := Q } (start ["self", "rules", "character"] vs) H := by
  obtain ⟨a, rr, c, r, rfl, hc, hr, q⟩ := h
  unfold t_Code_suits
  unfold suitC at q
  obtain ⟨ok, dx, D, h1, h2⟩ := id hr
  walk_at "rd"
  refine r_isC T.C_Rules_is h1 ?_
  walk_at "rd"
  refine r_inS ⟨10, _, rfl, rfl, ?_⟩
  rw [tx_list]
  have tail : (∀ H', Same H H' → Q (.bl (r.skip.all (forC c r))) H') → tCB (rAll K) (tCons (tLc (iSeqU K (tProp T.C_Rules (sp_Rules_skip T) [] E0 (tVar 1))) (gName 2) tYes (tMeth T.C_Code "is_foreign" (sp_Code_is_foreign T) [] E0 (tVar 0) (tCons (tVar 1) (tCons (tVar 2) tNil))) [2]) tNil) [some (.ref a), some (.ref rr), none] H Q := by
    intro q
    walk_at "rd"
    refine r_iseqS ?_
    walk_at "rd"
    refine ⟨_, rfl, fun L nL => ?_⟩
    refine c_it walk_str (fun i G => G L = some (.lst (((r.skip.take i).map (forC c r)).map V.bl)) ∧ Same H G) ⟨upd_same, same_new nL⟩ (fun _ _ _ _ => trivial) ?_ ?_
    · rintro i x G G' hi ⟨hG, sG⟩ ⟨rfl, ch, hch, rfl⟩
      have hc1 := hc.same sG
      have hr1 := hr.same sG
      have hch' : r.skip[i]? = some ch := by
        rw [← Array.getElem?_toList] at hch
        rwa [tx_list] at hch
      walk_at "rd"
      refine ⟨rfl, ?_⟩
      walk_at "rd"
      refine ⟨a, rr, c, r, ch, rfl, hc1, hr1, _, hG, ?_, ?_, same_mut sG nL⟩
      · rw [List.length_map, List.length_map, List.length_take]
        exact Nat.lt_of_le_of_lt (show min i r.skip.length ≤ 100 by have := ok.ln; omega) (by rw [sizeLine_eq]; decide)
      · rw [upd_same, take_map hch', List.map_append]
        rfl
    rintro G ⟨hG, sG⟩
    have e : (tx r.skip).cps.size = r.skip.length := tx_len r.skip
    rw [e, List.take_of_length_le (Nat.le_refl _)] at hG
    walk_at "rd"
    refine r_all (ql hG) ?_
    rw [List.all_map]
    exact q G sG
  by_cases h10 : 10 ∈ r.skip
  · rw [decide_eq_true h10] at q ⊢
    walk_at "rd"
    refine ⟨a, rr, c, r, rfl, hc, hr, ?_⟩
    cases hrw : rowsC c r with
    | true =>
      rw [hrw] at q
      walk_at "rd"
      exact q H (Same.refl H)
    | false =>
      rw [hrw] at q
      walk_at "rx"
      exact tail (by simpa using q)
  · rw [decide_eq_false h10] at q ⊢
    walk_at "rx"
    exact tail (by simpa using q)
theorem ok_Code_suits (T : Txt K mg) : FnOk P w K mg base CX0 4 T.Code_suits_a T.Code_suits_d ["self", "rules"] (sp_Code_suits T) := by
  refine T.Code_suits_f.ok sc_Code_suits (fun vs H Q E h => len_Code_suits T vs H Q E h) (fun cdv A outer s H vs Q E hr h => ⟨t_Code_suits T, PSs.nox ?_, pure_Code_suits T vs H Q E h⟩)
  have hu := hu64 hr
  exact (pss_cons (ps_if (PW.pt (pw_or (pt_not (pt_val (pe_callB call_isi (by rfl) T.n_isinstance (by decide +kernel) (pa_cons (pv 1) (pa_cons (pe_glob (by rfl) T.C_Rules_g rfl) pa_nil))))) (pw_or1 (PW.pt (pw_and (pt_cmpR op_inU (pe_glob (by rfl) T.k_NEWLINE_g T.k_NEWLINE_r) (pe_prop (pv 1) T.C_Rules_c T.Rules_skip_p (ok_Rules_skip T) (hr.mono (by decide)) T.Rules_skip_b .nil pass0 rfl) (by rfl)) (pw_and1 (pt_val (pe_meth (pv 0) T.C_Code_c T.Code_has_rows_m (ok_Code_has_rows T) (hr.mono (by decide)) T.Code_has_rows_b .nil pass0 (pa_cons (pv 1) pa_nil))))))))) (pss_one (ps_ret pe_bl)) pss_nil)
      (pss_one (ps_ret (pe_callB (cr_all rfl) (by rfl) T.n_all (by decide +kernel) (pa_cons (pe_lc (own := [("character", 2)]) (g := (gName 2)) (tt := tYes) rfl sc_Code_suits.nd (pi_seqU (pe_prop (pv 1) T.C_Rules_c T.Rules_skip_p (ok_Rules_skip T) (hr.mono (by decide)) T.Rules_skip_b .nil pass0 rfl)) (blkOk_by (own := [("character", 2)]) (N := ["self", "rules", "character"]) (sc := defScope s_Code_suits) (by decide +kernel)) (fun _ _ _ _ _ => (pg_name (i := 2) sc_Code_suits.nd rfl (.inl rfl))) (fun _ _ _ _ _ => pts_nil) (fun _ _ _ _ _ => (pe_meth (pv 0) T.C_Code_c T.Code_is_foreign_m (ok_Code_is_foreign T) (hr.mono (by decide)) T.Code_is_foreign_b .nil pass0 (pa_cons (pv 1) (pa_cons (pv 2) pa_nil))))) pa_nil)))))

theorem r_inT {x : V} {t : Addr} {xs : List V} {H : Hp} {Q : VK} (h1 : SqT K H t xs) (f1 : flatV x = true) (f2 : xs.all flatV = true) (h : Q (.bl (inV x xs)) H) : rInU K x (.ref t) H Q := .inr ⟨t, xs, rfl, .inr h1, f1, f2, h⟩
/-! ### reading states -/
def RStAt (H : Hp) (st : Addr) (b : List Nat) (sn col pn : Nat) (br : Bool) : Prop := H st = some (.tup [.str (tx b), .int sn, .int col, .int pn, .bl br])
def sp_Code_opening (T : Txt K mg) : Sp := fun vs H Q _ => ∃ a c, vs = [.ref a] ∧ CodeAt T H a c ∧ ∀ p H', Same H H' → H p = none → RStAt H' p [] 0 0 0 false → Q (.ref p) H'
theorem len_Code_opening (T : Txt K mg) (vs : List V) (H : Hp) (Q : VK) (E : XK) (h : sp_Code_opening T vs H Q E) : vs.length = 1 := by
  obtain ⟨_, _, rfl, _⟩ := h
  rfl
def t_Code_opening (T : Txt K mg) : TS := (tRet (tTup (tCons (tC (.str (Str.ofString ""))) (tCons (tC (.int 0)) (tCons (tC (.int 0)) (tCons (tC (.int 0)) (tCons (tC (.bl false)) tNil)))))))

theorem pure_Code_opening (T : Txt K mg) (vs : List V) (H : Hp) (Q : VK) (E : XK) (h : sp_Code_opening T vs H Q E) : t_Code_opening T { nx := fun _ H' => Q .non H', rt := Q } (start ["self"] vs) H := by
  obtain ⟨a, c, rfl, hc, q⟩ := h
  unfold t_Code_opening
  walk_at "rd"
  refine And.intro (by show 5 ≤ sizeLine; decide) fun p np => ?_
  exact q p _ (same_new np) np upd_same
theorem ok_Code_opening (T : Txt K mg) : FnOk P w K mg base CX0 1 T.Code_opening_a T.Code_opening_d ["self"] (sp_Code_opening T) := by
  refine T.Code_opening_f.ok sc_Code_opening (fun vs H Q E h => len_Code_opening T vs H Q E h) (fun cdv A outer s H vs Q E hr h => ⟨t_Code_opening T, PSs.nox ?_, pure_Code_opening T vs H Q E h⟩)
  have hu := hu64 hr
  exact (pss_one (ps_ret (pe_tup (pa_cons pe_str (pa_cons pe_int (pa_cons pe_int (pa_cons pe_int (pa_cons pe_bl pa_nil))))))))

def wholeC (c : CodeD) (r : RD) (b : List Nat) : Bool := decide (b.length < c.sb) && (r.loose || !decide (49 ∈ b))
def sp_Code_is_whole (T : Txt K mg) : Sp := fun vs H Q _ => ∃ a rr c r, ∃ b : List Nat, vs = [.ref a, .ref rr, .str (tx b)] ∧ CodeAt T H a c ∧ RulesAt T H rr r ∧ b.length ≤ 1000 ∧ Q (.bl (wholeC c r b)) H
theorem len_Code_is_whole (T : Txt K mg) (vs : List V) (H : Hp) (Q : VK) (E : XK) (h : sp_Code_is_whole T vs H Q E) : vs.length = 3 := by
  obtain ⟨_, _, _, _, _, rfl, _⟩ := h
  rfl
theorem r_notInS {H : Hp} {Q : VK} {c : Nat} {z : Str} (h : Q (.bl (!decide (c ∈ z.cps.toList))) H) : rNinU K (.str ⟨#[c]⟩) (.str z) H Q := .inl ⟨c, z, rfl, rfl, h⟩
def t_Code_is_whole (T : Txt K mg) : TS := (tRet (tAndV (tOp rLtI (tCB (rLenU K) (tCons (tVar 2) tNil)) (tProp T.C_Code (sp_Code_bits T) [] E0 (tVar 0))) (tOrV (tProp T.C_Rules (sp_Rules_loose T) [] E0 (tVar 1)) (tOp (rNinU K) (tC (.str (Str.ofString "1"))) (tVar 2)))))

theorem pure_Code_is_whole (T : Txt K mg) (vs : List V) (H : Hp) (Q : VK) (E : XK) (h : sp_Code_is_whole T vs H Q E) : t_Code_is_whole T { nx := fun _ H' => Q .non H', rt := Q } (start ["self", "rules", "bits"] vs) H := by
  obtain ⟨a, rr, c, r, b, rfl, hc, hr, hl, q⟩ := h
  unfold t_Code_is_whole
  unfold wholeC at q
  walk_at "rd"
  refine r_lenUS (smallS (by rw [tx_len]; omega)) ?_
  walk_at "rd"
  rw [tx_len, show decide (((b.length : Nat) : Int) < (c.sb : Int)) = decide (b.length < c.sb) from decide_eq_decide.mpr (by omega)]
  cases hbl : decide (b.length < c.sb) with
  | false =>
    rw [hbl] at q
    walk_at "rd"
    exact q
  | true =>
    rw [hbl, Bool.true_and] at q
    walk_at "rd"
    cases hlo : r.loose with
    | true =>
      rw [hlo] at q
      walk_at "rd"
      exact q
    | false =>
      rw [hlo] at q
      walk_at "rd"
      refine r_notInS ?_
      rw [tx_list]
      exact q
theorem ok_Code_is_whole (T : Txt K mg) : FnOk P w K mg base CX0 3 T.Code_is_whole_a T.Code_is_whole_d ["self", "rules", "bits"] (sp_Code_is_whole T) := by
  refine T.Code_is_whole_f.ok sc_Code_is_whole (fun vs H Q E h => len_Code_is_whole T vs H Q E h) (fun cdv A outer s H vs Q E hr h => ⟨t_Code_is_whole T, PSs.nox ?_, pure_Code_is_whole T vs H Q E h⟩)
  have hu := hu64 hr
  exact (pss_one (ps_ret (pe_and (pe_cmpR op_lt (pe_callB c_lenU (by rfl) T.n_len (by decide +kernel) (pa_cons (pv 2) pa_nil)) (pe_prop (pv 0) T.C_Code_c T.Code_bits_p (ok_Code_bits T) (hr.mono (by decide)) T.Code_bits_b .nil pass0 rfl) (nomark _)) (pe_one (pe_or (pe_prop (pv 1) T.C_Rules_c T.Rules_loose_p (ok_Rules_loose T) (hr.mono (by decide)) T.Rules_loose_b .nil pass0 rfl) (pe_one (pe_cmpR op_ninU pe_str (pv 2) (by rfl))))))))

/-- how many pads the group wants -/
def misC (c : CodeD) (sn : Nat) : Nat := (grp c.sb - sn) % grp c.sb
def sp_Code_missing_pads (T : Txt K mg) : Sp := fun vs H Q _ => ∃ a c st b sn col pn br, vs = [.ref a, .ref st] ∧ CodeAt T H a c ∧ RStAt H st b sn col pn br ∧ sn < grp c.sb ∧ Q (.int (misC c sn : Nat)) H
theorem len_Code_missing_pads (T : Txt K mg) (vs : List V) (H : Hp) (Q : VK) (E : XK) (h : sp_Code_missing_pads T vs H Q E) : vs.length = 2 := by
  obtain ⟨_, _, _, _, _, _, _, _, rfl, _⟩ := h
  rfl
def t_Code_missing_pads (T : Txt K mg) : TS := (tRet (tOp rModI (tOp rSubI (tProp T.C_Code (sp_Code_group T) [] E0 (tVar 0)) (tOp (rIx K) (tVar 1) (tC (.int 1)))) (tProp T.C_Code (sp_Code_group T) [] E0 (tVar 0))))

theorem pure_Code_missing_pads (T : Txt K mg) (vs : List V) (H : Hp) (Q : VK) (E : XK) (h : sp_Code_missing_pads T vs H Q E) : t_Code_missing_pads T { nx := fun _ H' => Q .non H', rt := Q } (start ["self", "state"] vs) H := by
  obtain ⟨a, c, st, b, sn, col, pn, br, rfl, hc, hst, hsn, q⟩ := h
  unfold RStAt at hst
  unfold t_Code_missing_pads
  walk_at "rd"
  rw [show ((grp c.sb : Nat) : Int) - (sn : Int) = ((grp c.sb - sn : Nat) : Int) by omega]
  rw [Int.fmod_eq_emod_of_nonneg _ (by omega), ← Int.natCast_emod]
  exact q
theorem ok_Code_missing_pads (T : Txt K mg) : FnOk P w K mg base CX0 3 T.Code_missing_pads_a T.Code_missing_pads_d ["self", "state"] (sp_Code_missing_pads T) := by
  refine T.Code_missing_pads_f.ok sc_Code_missing_pads (fun vs H Q E h => len_Code_missing_pads T vs H Q E h) (fun cdv A outer s H vs Q E hr h => ⟨t_Code_missing_pads T, PSs.nox ?_, pure_Code_missing_pads T vs H Q E h⟩)
  have hu := hu64 hr
  exact (pss_one (ps_ret (pe_op op_modN (pe_op op_sub (pe_prop (pv 0) T.C_Code_c T.Code_group_p (ok_Code_group T) (hr.mono (by decide)) T.Code_group_b .nil pass0 rfl) (pe_ix ix_seq (pv 1) pe_int (fun _ _ => rfl))) (pe_prop (pv 0) T.C_Code_c T.Code_group_p (ok_Code_group T) (hr.mono (by decide)) T.Code_group_b .nil pass0 rfl))))

def endC (c : CodeD) (r : RD) (b : List Nat) (sn pn : Nat) (br : Bool) : Bool :=
  if br = true ∨ wholeC c r b = false then false else if c.pd = tx [] ∨ r.pads = Str.ofString "none" ∨ r.pads = Str.ofString "any" then true else decide (pn = misC c sn) || (decide (r.pads = Str.ofString "optional") && decide (pn = 0))
def sp_Code_may_end (T : Txt K mg) : Sp := fun vs H Q _ => ∃ a rr c r st b sn col pn br, vs = [.ref a, .ref rr, .ref st] ∧ CodeAt T H a c ∧ RulesAt T H rr r ∧ RStAt H st b sn col pn br ∧ b.length ≤ 1000 ∧ sn < grp c.sb ∧ ∀ H', Same H H' → Q (.bl (endC c r b sn pn br)) H'
theorem len_Code_may_end (T : Txt K mg) (vs : List V) (H : Hp) (Q : VK) (E : XK) (h : sp_Code_may_end T vs H Q E) : vs.length = 3 := by
  obtain ⟨_, _, _, _, _, _, _, _, _, _, rfl, _⟩ := h
  rfl
def t_Code_may_end (T : Txt K mg) : TS := (tSeq (tAsg (tVar 2) (gTup K 5 (gCons (gName 3) (gCons (gName 4) (gCons (gName 5) (gCons (gName 6) (gCons (gName 7) gNil)))))))
    (tSeq (tIfS (tOr (tB (tVar 7)) (tNot (tB (tMeth T.C_Code "is_whole" (sp_Code_is_whole T) [] E0 (tVar 0) (tCons (tVar 1) (tCons (tVar 3) tNil)))))) (tRet (tC (.bl false))) tNext)
    (tSeq (tIfS (tOr (tTest (tOp (rEqU K) (tProp T.C_Code (sp_Code_pad T) [] E0 (tVar 0)) (tC (.str (Str.ofString ""))))) (tTest (tOp (rInU K) (tProp T.C_Rules (sp_Rules_pads T) [] E0 (tVar 1)) (tTup (tCons (tC (.str (Str.ofString "none"))) (tCons (tC (.str (Str.ofString "any"))) tNil)))))) (tRet (tC (.bl true))) tNext)
    (tRet (tOrV (tOp (rEqU K) (tVar 6) (tMeth T.C_Code "missing_pads" (sp_Code_missing_pads T) [] E0 (tVar 0) (tCons (tVar 2) tNil))) (tAndV (tOp (rEqU K) (tProp T.C_Rules (sp_Rules_pads T) [] E0 (tVar 1)) (tC (.str (Str.ofString "optional")))) (tOp (rEqU K) (tVar 6) (tC (.int 0)))))))))

theorem pure_Code_may_end (T : Txt K mg) (vs : List V) (H : Hp) (Q : VK) (E : XK) (h : sp_Code_may_end T vs H Q E) : t_Code_may_end T { nx := fun _ H' => Q .non H', rt := Q } (start ["self", "rules", "state", "bits", "signs", "column", "pads", "broken"] vs) H := by
  obtain ⟨a, rr, c, r, st, b, sn, col, pn, br, rfl, hc, hr, hst, hl, hsn, q⟩ := h
  have hst' := hst
  unfold RStAt at hst
  unfold t_Code_may_end
  unfold endC at q
  have fin : ∀ (x : Bool) (σ : S), (br = true ∨ wholeC c r b = false) → Q (.bl false) H := fun _ _ z => by
    have := q H (Same.refl H)
    rw [if_pos z] at this
    exact this
  walk_at "rd"
  cases br with
  | true =>
    walk_at "rd"
    exact fin true [] (.inl rfl)
  | false =>
  walk_at "rd"
  refine ⟨a, rr, c, r, b, rfl, hc, hr, hl, ?_⟩
  cases hw : wholeC c r b with
  | false =>
    walk_at "rd"
    exact fin true [] (.inr hw)
  | true =>
  rw [hw, if_neg (by simp)] at q
  walk_at "rd"
  rw [e_tx]
  by_cases hp : c.pd = tx []
  · rw [decide_eq_true hp]
    have := q H (Same.refl H)
    rw [if_pos (.inl hp)] at this
    walk_at "rd"
    exact this
  rw [decide_eq_false hp]
  walk_at "rd"
  refine And.intro (by show 2 ≤ sizeLine; decide) fun t nt => ?_
  generalize hg : upd H t _ = H1
  have s1 := same_of hg nt
  have v1 := at_of hg
  clear hg
  have hc1 := hc.same s1
  have hr1 := hr.same s1
  walk_at "rd"
  refine r_inT (qt v1) rfl (by rfl) ?_
  have e : inV (.str r.pads) [V.str (Str.ofString "none"), .str (Str.ofString "any")] = decide (r.pads = Str.ofString "none" ∨ r.pads = Str.ofString "any") := by
    rcases hr.1.pd with e | e | e | e <;> rw [e] <;> decide +kernel
  rw [e]
  by_cases hm : r.pads = Str.ofString "none" ∨ r.pads = Str.ofString "any"
  · rw [decide_eq_true hm]
    have := q H1 s1
    rw [if_pos (.inr hm)] at this
    walk_at "rd"
    exact this
  rw [decide_eq_false hm]
  rw [if_neg (fun z => z.elim hp hm)] at q
  walk_at "rd"
  refine ⟨a, c, st, b, sn, col, pn, false, rfl, hc1, s1 _ _ hst', hsn, ?_⟩
  walk_at "rd"
  rw [show decide ((pn : Int) = (misC c sn : Nat)) = decide (pn = misC c sn) from decide_eq_decide.mpr (by omega)]
  have q1 := q H1 s1
  revert q1
  cases decide (pn = misC c sn) with
  | true =>
    intro q1
    walk_at "rd"
    exact q1
  | false =>
    intro q1
    rw [Bool.false_or] at q1
    walk_at "rd"
    revert q1
    cases decide (r.pads = Str.ofString "optional") with
    | false =>
      intro q1
      walk_at "rd"
      exact q1
    | true =>
      intro q1
      rw [Bool.true_and] at q1
      walk_at "rd"
      rw [show decide ((pn : Int) = 0) = decide (pn = 0) from decide_eq_decide.mpr (by omega)]
      exact q1
theorem ok_Code_may_end (T : Txt K mg) : FnOk P w K mg base CX0 4 T.Code_may_end_a T.Code_may_end_d ["self", "rules", "state"] (sp_Code_may_end T) := by
  refine T.Code_may_end_f.ok sc_Code_may_end (fun vs H Q E h => len_Code_may_end T vs H Q E h) (fun cdv A outer s H vs Q E hr h => ⟨t_Code_may_end T, PSs.nox ?_, pure_Code_may_end T vs H Q E h⟩)
  have hu := hu64 hr
  exact (pss_cons (ps_asg (pv 2) (pg_tup (by rfl) (pgs_cons (pg_name (i := 3) sc_Code_may_end.nd rfl (.inl rfl)) (pgs_cons (pg_name (i := 4) sc_Code_may_end.nd rfl (.inl rfl)) (pgs_cons (pg_name (i := 5) sc_Code_may_end.nd rfl (.inl rfl)) (pgs_cons (pg_name (i := 6) sc_Code_may_end.nd rfl (.inl rfl)) (pgs_cons (pg_name (i := 7) sc_Code_may_end.nd rfl (.inl rfl)) pgs_nil)))))))
      (pss_cons (ps_if (PW.pt (pw_or (pt_val (pv 7)) (pw_or1 (pt_not (pt_val (pe_meth (pv 0) T.C_Code_c T.Code_is_whole_m (ok_Code_is_whole T) (hr.mono (by decide)) T.Code_is_whole_b .nil pass0 (pa_cons (pv 1) (pa_cons (pv 3) pa_nil)))))))) (pss_one (ps_ret pe_bl)) pss_nil)
      (pss_cons (ps_if (PW.pt (pw_or (pt_cmpR (op_eqU hu) (pe_prop (pv 0) T.C_Code_c T.Code_pad_p (ok_Code_pad T) (hr.mono (by decide)) T.Code_pad_b .nil pass0 rfl) pe_str (nomark _)) (pw_or1 (pt_cmpR op_inU (pe_prop (pv 1) T.C_Rules_c T.Rules_pads_p (ok_Rules_pads T) (hr.mono (by decide)) T.Rules_pads_b .nil pass0 rfl) (pe_tup (pa_cons pe_str (pa_cons pe_str pa_nil))) (by rfl))))) (pss_one (ps_ret pe_bl)) pss_nil)
      (pss_one (ps_ret (pe_or (pe_cmpR (op_eqU hu) (pv 6) (pe_meth (pv 0) T.C_Code_c T.Code_missing_pads_m (ok_Code_missing_pads T) (hr.mono (by decide)) T.Code_missing_pads_b .nil pass0 (pa_cons (pv 2) pa_nil)) (nomark _)) (pe_one (pe_and (pe_cmpR (op_eqU hu) (pe_prop (pv 1) T.C_Rules_c T.Rules_pads_p (ok_Rules_pads T) (hr.mono (by decide)) T.Rules_pads_b .nil pass0 rfl) pe_str (nomark _)) (pe_one (pe_cmpR (op_eqU hu) (pv 6) pe_int (nomark _)))))))))))


end
section
variable {w : World} {K : PySem.W.Frag} {mg : Str → Option Value} {base : Heap}
local macro_rules | `(tactic| walk_at "hc") => `(tactic| first
  | assumption
  | ((refine CodeAt.same (H := ?xH) ?xb ?xa); (case xa => assumption); (case xb => walk_at "hc")))
local macro_rules | `(tactic| walk_at "rd0") => `(tactic| first
  | ((with_reducible refine r_get (a := ?xa) (c := ?xc) ?x1 ?x2 ?_); (case x1 => rfl); (case x2 => walk_at "hc"))
  | ((with_reducible refine r_methC (a := ?xa) (c := ?xc) ?x1 ?x2 ?x3 ?_); (case x1 => rfl); (case x2 => walk_at "hc"); (case x3 => (intro _ _ _; rfl)))
  | (with_reducible refine r_fmtB ?_)
  | (with_reducible refine r_dget ?_)
  | (with_reducible refine r_m0 ?_)
  | (with_reducible refine r_makeK ?_)
  | (with_reducible refine r_cval ?_)
  | (with_reducible refine r_sfld ?_)
  | (with_reducible refine r_isiI ?_)
  | (with_reducible refine r_isiIB ?_)
  | (with_reducible refine r_isiS ?_)
  | (with_reducible refine r_inID ?_))

local macro_rules | `(tactic| walk_at "hcr") => `(tactic| first
  | assumption
  | ((refine RulesAt.same (H := ?xH) ?xb ?xa); (case xa => assumption); (case xb => walk_at "hcr")))
local macro_rules | `(tactic| walk_at "rd0") => `(tactic| first
  | ((with_reducible refine r_getR (a := ?xa) (r := ?xr) ?x1 ?x2 ?_); (case x1 => rfl); (case x2 => walk_at "hcr")))

theorem join_tx : ∀ l : List (List Nat), Str.join (Str.ofString "") (l.map tx) = tx l.flatten
  | [] => rfl
  | [x] => by
    show tx x = tx (x ++ [])
    rw [List.append_nil]
  | x :: y :: r => by
    have ih := join_tx (y :: r)
    rw [List.map_cons, List.map_cons, join_cons_cons]
    rw [List.map_cons] at ih
    rw [ih, e_tx, tx_app, tx_app, List.append_nil]
    rfl
theorem txt_join_tx (l : List (List Nat)) : Txt.join (Str.ofString "") (l.map tx) = tx l.flatten := by
  rw [← join_tx]
  exact PySem.StrLaws.glued_eq_join _ _
theorem sum_le {m : Nat} : ∀ l : List (List Nat), (∀ p ∈ l, p.length ≤ m) → ((l.map tx).map (·.length)).sum ≤ l.length * m
  | [], _ => by simp
  | x :: r, h => by
    have h1 := h x (List.mem_cons_self ..)
    have h2 := sum_le r fun p hp => h p (List.mem_cons_of_mem _ hp)
    simp only [List.map_cons, List.sum_cons, List.length_cons, tx_len, Nat.add_mul, Nat.one_mul] at h2 ⊢
    omega
theorem flat_le {m : Nat} : ∀ l : List (List Nat), (∀ p ∈ l, p.length ≤ m) → l.flatten.length ≤ l.length * m
  | [], _ => by simp
  | x :: r, h => by
    have h1 := h x (List.mem_cons_self ..)
    have h2 := flat_le r fun p hp => h p (List.mem_cons_of_mem _ hp)
    simp only [List.flatten_cons, List.length_append, List.length_cons, Nat.add_mul, Nat.one_mul]
    omega
theorem ne_ob {H : Hp} {a b : Addr} {o u : HO} (h1 : H a = some o) (h2 : H b = some u) (n : o ≠ u) : a ≠ b := fun z => n (by rw [z, h2] at h1; exact (Option.some.inj h1).symm)
theorem ins_ne {C D dx dy : Addr} {fs gs : List (Str × V)} {n : Str} {v : V} (h1 : fs.lookup n = some v) (h2 : gs.lookup n = none) : HO.ins C dx fs ≠ HO.ins D dy gs := fun z => by
  rw [(HO.ins.inj z).2.2, h2] at h1
  cases h1
theorem RulesAt.sameI {T : Txt K mg} {H H' : Hp} {a w C dx : Addr} {fs : List (Str × V)} {r : RD} (h : RulesAt T H a r) (s : SameB w H H') (hw : H w = some (.ins C dx fs)) (h1 : fs.lookup ("options" : Str) = none) : RulesAt T H' a r := by
  obtain ⟨o, dx2, D, g1, g2⟩ := h
  exact ⟨o, dx2, D, s _ _ (ne_ob g1 hw (ins_ne (n := "options") (v := .ref D) rfl h1)) g1, s _ _ (ne_ob g2 hw fun z => nomatch z) g2⟩
def sp_Rules_suit (T : Txt K mg) : Sp := fun vs H Q _ => ∃ rr a r c, vs = [.ref rr, .ref a] ∧ CodeAt T H a c ∧ RulesAt T H rr r ∧ ∀ H', Same H H' → Q (.bl (suitC c r)) H'
theorem len_Rules_suit (T : Txt K mg) (vs : List V) (H : Hp) (Q : VK) (E : XK) (h : sp_Rules_suit T vs H Q E) : vs.length = 2 := by
  obtain ⟨_, _, _, _, rfl, _⟩ := h
  rfl
def t_Rules_suit (T : Txt K mg) : TS := (tRet (tMeth T.C_Code "suits" (sp_Code_suits T) [] E0 (tVar 1) (tCons (tVar 0) tNil)))

theorem pure_Rules_suit (T : Txt K mg) (vs : List V) (H : Hp) (Q : VK) (E : XK) (h : sp_Rules_suit T vs H Q E) : t_Rules_suit T { nx := fun _ H' => Q .non H', rt := Q } (start ["self", "code"] vs) H := by
  obtain ⟨rr, a, r, c, rfl, hc, hr, q⟩ := h
  unfold t_Rules_suit
  refine r_ret ?_
  exact r_methC rfl hc (fun _ _ _ => rfl) (r_cons (r_var rfl (r_nil ⟨a, rr, c, r, rfl, hc, hr, q⟩)))
theorem ok_Rules_suit (T : Txt K mg) : FnOk P w K mg base CX0 5 T.Rules_suit_a T.Rules_suit_d ["self", "code"] (sp_Rules_suit T) := by
  refine T.Rules_suit_f.ok sc_Rules_suit (fun vs H Q E h => len_Rules_suit T vs H Q E h) (fun cdv A outer s H vs Q E hr h => ⟨t_Rules_suit T, PSs.nox ?_, pure_Rules_suit T vs H Q E h⟩)
  have hu := hu64 hr
  exact (pss_one (ps_ret (pe_meth (pv 1) T.C_Code_c T.Code_suits_m (ok_Code_suits T) (hr.mono (by decide)) T.Code_suits_b .nil pass0 (pa_cons (pv 0) pa_nil))))

/-- never called: rules are always passed -/
def sp_Machine_usual (T : Txt K mg) : Sp := fun vs _ _ _ => vs.length = 1 ∧ False
theorem len_Machine_usual (T : Txt K mg) (vs : List V) (H : Hp) (Q : VK) (E : XK) (h : sp_Machine_usual T vs H Q E) : vs.length = 1 := h.1
def t_Machine_usual (T : Txt K mg) : TS := (tRet (tMakeK T.C_Rules 0 ([] : List Str).length (sp_Rules___init__ T) (fun vs zs => vs ++ (zs ++ [.str (Str.ofString "full"), .str (Str.ofString ""), .bl true, .bl false, .bl false])) E0 tNil tNil))

theorem pure_Machine_usual (T : Txt K mg) (vs : List V) (H : Hp) (Q : VK) (E : XK) (h : sp_Machine_usual T vs H Q E) : t_Machine_usual T { nx := fun _ H' => Q .non H', rt := Q } (start ["self"] vs) H := by
  exact h.2.elim
theorem ok_Machine_usual (T : Txt K mg) : FnOk P w K mg base CX0 5 T.Machine_usual_a T.Machine_usual_d ["self"] (sp_Machine_usual T) := by
  refine T.Machine_usual_f.ok sc_Machine_usual (fun vs H Q E h => len_Machine_usual T vs H Q E h) (fun cdv A outer s H vs Q E hr h => ⟨t_Machine_usual T, PSs.nox ?_, pure_Machine_usual T vs H Q E h⟩)
  have hu := hu64 hr
  exact (pss_one (ps_ret (pe_makeK0 T.C_Rules_m (ok_Rules___init__ T) (hr.mono (by decide)) (by rfl) T.C_Rules_g T.Rules___init___k0_.choose_spec pass0 pk_nil)))


end
section
variable {w : World} {K : PySem.W.Frag} {mg : Str → Option Value} {base : Heap}
local macro_rules | `(tactic| walk_at "hc") => `(tactic| first
  | assumption
  | ((refine CodeAt.same (H := ?xH) ?xb ?xa); (case xa => assumption); (case xb => walk_at "hc")))
local macro_rules | `(tactic| walk_at "rd0") => `(tactic| first
  | ((with_reducible refine r_get (a := ?xa) (c := ?xc) ?x1 ?x2 ?_); (case x1 => rfl); (case x2 => walk_at "hc"))
  | ((with_reducible refine r_methC (a := ?xa) (c := ?xc) ?x1 ?x2 ?x3 ?_); (case x1 => rfl); (case x2 => walk_at "hc"); (case x3 => (intro _ _ _; rfl)))
  | (with_reducible refine r_fmtB ?_)
  | (with_reducible refine r_dget ?_)
  | (with_reducible refine r_m0 ?_)
  | (with_reducible refine r_makeK ?_)
  | (with_reducible refine r_cval ?_)
  | (with_reducible refine r_sfld ?_)
  | (with_reducible refine r_isiI ?_)
  | (with_reducible refine r_isiIB ?_)
  | (with_reducible refine r_isiS ?_)
  | (with_reducible refine r_inID ?_))

local macro_rules | `(tactic| walk_at "hcr") => `(tactic| first
  | assumption
  | ((refine RulesAt.same (H := ?xH) ?xb ?xa); (case xa => assumption); (case xb => walk_at "hcr")))
local macro_rules | `(tactic| walk_at "rd0") => `(tactic| first
  | ((with_reducible refine r_getR (a := ?xa) (r := ?xr) ?x1 ?x2 ?_); (case x1 => rfl); (case x2 => walk_at "hcr")))

/-! ### what a character stands for -/
def CodeD.full (c : CodeD) (col : Nat) : Bool := decide (0 < c.wd) && decide (col = c.wd)
def CodeD.nxt (c : CodeD) (col : Nat) : Nat := if 0 < c.wd then col + 1 else 0
def sp_Code_is_full (T : Txt K mg) : Sp := fun vs H Q _ => ∃ a c, ∃ n : Nat, vs = [.ref a, .int n] ∧ CodeAt T H a c ∧ Q (.bl (c.full n)) H
theorem len_Code_is_full (T : Txt K mg) (vs : List V) (H : Hp) (Q : VK) (E : XK) (h : sp_Code_is_full T vs H Q E) : vs.length = 2 := by
  obtain ⟨_, _, _, rfl, _⟩ := h
  rfl
def t_Code_is_full (T : Txt K mg) : TS := (tRet (tAndV (tOp rGtI (tProp T.C_Code (sp_Code_width T) [] E0 (tVar 0)) (tC (.int 0))) (tOp (rEqU K) (tVar 1) (tProp T.C_Code (sp_Code_width T) [] E0 (tVar 0)))))

theorem pure_Code_is_full (T : Txt K mg) (vs : List V) (H : Hp) (Q : VK) (E : XK) (h : sp_Code_is_full T vs H Q E) : t_Code_is_full T { nx := fun _ H' => Q .non H', rt := Q } (start ["self", "column"] vs) H := by
  obtain ⟨a, c, n, rfl, hc, q⟩ := h
  unfold t_Code_is_full
  unfold CodeD.full at q
  walk_at "rd"
  refine r_iteD (fun h => ?_) (fun h => ?_)
  · rw [decide_eq_true (show 0 < c.wd by omega), Bool.true_and] at q
    walk_at "rd"
    by_cases e : n = c.wd
    · rw [decide_eq_true e] at q
      rw [decide_eq_true (show (n : Int) = (c.wd : Int) by omega)]
      exact q
    · rw [decide_eq_false e] at q
      rw [decide_eq_false (show ¬ (n : Int) = (c.wd : Int) by omega)]
      exact q
  · rw [decide_eq_false (show ¬ 0 < c.wd by omega), Bool.false_and] at q
    exact q
theorem ok_Code_is_full (T : Txt K mg) : FnOk P w K mg base CX0 3 T.Code_is_full_a T.Code_is_full_d ["self", "column"] (sp_Code_is_full T) := by
  refine T.Code_is_full_f.ok sc_Code_is_full (fun vs H Q E h => len_Code_is_full T vs H Q E h) (fun cdv A outer s H vs Q E hr h => ⟨t_Code_is_full T, PSs.nox ?_, pure_Code_is_full T vs H Q E h⟩)
  have hu := hu64 hr
  exact (pss_one (ps_ret (pe_and (pe_cmpR op_gt (pe_prop (pv 0) T.C_Code_c T.Code_width_p (ok_Code_width T) (hr.mono (by decide)) T.Code_width_b .nil pass0 rfl) pe_int (nomark _)) (pe_one (pe_cmpR (op_eqU hu) (pv 1) (pe_prop (pv 0) T.C_Code_c T.Code_width_p (ok_Code_width T) (hr.mono (by decide)) T.Code_width_b .nil pass0 rfl) (nomark _))))))

def sp_Code_next_column (T : Txt K mg) : Sp := fun vs H Q _ => ∃ a c, ∃ n : Nat, vs = [.ref a, .int n] ∧ CodeAt T H a c ∧ Q (.int (c.nxt n : Nat)) H
theorem len_Code_next_column (T : Txt K mg) (vs : List V) (H : Hp) (Q : VK) (E : XK) (h : sp_Code_next_column T vs H Q E) : vs.length = 2 := by
  obtain ⟨_, _, _, rfl, _⟩ := h
  rfl
def t_Code_next_column (T : Txt K mg) : TS := (tRet (tIf (tTest (tOp rGtI (tProp T.C_Code (sp_Code_width T) [] E0 (tVar 0)) (tC (.int 0)))) (tOp (rAddU K) (tVar 1) (tC (.int 1))) (tC (.int 0))))

theorem pure_Code_next_column (T : Txt K mg) (vs : List V) (H : Hp) (Q : VK) (E : XK) (h : sp_Code_next_column T vs H Q E) : t_Code_next_column T { nx := fun _ H' => Q .non H', rt := Q } (start ["self", "column"] vs) H := by
  obtain ⟨a, c, n, rfl, hc, q⟩ := h
  unfold t_Code_next_column
  unfold CodeD.nxt at q
  walk_at "rd"
  refine r_iteD (fun h => ?_) (fun h => ?_)
  · rw [if_pos (show 0 < c.wd by omega)] at q
    walk_at "rd"
    exact q
  · rw [if_neg (show ¬ 0 < c.wd by omega)] at q
    walk_at "rd"
    exact q
theorem ok_Code_next_column (T : Txt K mg) : FnOk P w K mg base CX0 3 T.Code_next_column_a T.Code_next_column_d ["self", "column"] (sp_Code_next_column T) := by
  refine T.Code_next_column_f.ok sc_Code_next_column (fun vs H Q E h => len_Code_next_column T vs H Q E h) (fun cdv A outer s H vs Q E hr h => ⟨t_Code_next_column T, PSs.nox ?_, pure_Code_next_column T vs H Q E h⟩)
  have hu := hu64 hr
  exact (pss_one (ps_ret (pe_ifExp (pt_cmpR op_gt (pe_prop (pv 0) T.C_Code_c T.Code_width_p (ok_Code_width T) (hr.mono (by decide)) T.Code_width_b .nil pass0 rfl) pe_int (nomark _)) (pe_op op_addU (pv 1) pe_int) pe_int)))

/-- the digit that a text of one character or none stands for, -1 else -/
def digZ (c : CodeD) : List Nat → Int
  | [ch] => if ch ∈ c.sg.cps.toList then ((c.sg.cps.toList.idxOf ch : Nat) : Int) else -1
  | _ => -1
theorem digZ_lt {c : CodeD} (ok : c.Ok) (l : List Nat) : -1 ≤ digZ c l ∧ digZ c l < 64 := by
  have hl : c.sg.cps.toList.length ≤ 64 := by
    rw [Array.length_toList]
    have : c.sg.length = 2 ^ c.sb := ok.ln
    have h2 : 2 ^ c.sb ≤ 2 ^ 6 := Nat.pow_le_pow_right (by decide) ok.b6
    have : c.sg.cps.size = 2 ^ c.sb := this
    omega
  match l with
  | [] => exact ⟨by show (-1 : Int) ≤ -1; decide, by show (-1 : Int) < 64; decide⟩
  | [ch] =>
    show -1 ≤ (if ch ∈ c.sg.cps.toList then ((c.sg.cps.toList.idxOf ch : Nat) : Int) else -1) ∧ (if ch ∈ c.sg.cps.toList then ((c.sg.cps.toList.idxOf ch : Nat) : Int) else -1) < 64
    by_cases hm : ch ∈ c.sg.cps.toList
    · rw [if_pos hm]
      have := List.idxOf_lt_length_of_mem hm
      exact ⟨by omega, by omega⟩
    · rw [if_neg hm]
      exact ⟨by decide, by decide⟩
  | _ :: _ :: _ => exact ⟨by show (-1 : Int) ≤ -1; decide, by show (-1 : Int) < 64; decide⟩
theorem dig_get {c : CodeD} {kvs : List (Key × V)} (D : Dig c kvs) (l : List Nat) : ((valV kvs (.inr (tx l))).getD (V.int (-1))) = .int (digZ c l) := by
  have no : (∀ ch ∈ c.sg.cps.toList, tx l ≠ ⟨#[ch]⟩) → ((valV kvs (.inr (tx l))).getD (V.int (-1))) = .int (-1) := fun h => by rw [D.2 _ h]; rfl
  match l with
  | [] =>
    refine no fun ch _ e => ?_
    have := congrArg (fun z : Str => z.cps.toList.length) e
    simp [tx] at this
  | [ch] =>
    show _ = V.int (if ch ∈ c.sg.cps.toList then ((c.sg.cps.toList.idxOf ch : Nat) : Int) else -1)
    by_cases hm : ch ∈ c.sg.cps.toList
    · rw [if_pos hm]
      have h1 : c.sg.cps.toList[c.sg.cps.toList.idxOf ch]? = some ch := by
        rw [List.getElem?_eq_getElem (List.idxOf_lt_length_of_mem hm), List.getElem_idxOf]
      have := D.1 _ _ h1
      rw [show tx [ch] = (⟨#[ch]⟩ : Str) from rfl, this]
      rfl
    · rw [if_neg hm]
      refine no fun x hx e => hm ?_
      have e2 : [ch] = [x] := tx_inj (e.trans rfl)
      cases e2
      exact hx
  | a :: b :: r =>
    refine no fun ch _ e => ?_
    have := congrArg (fun z : Str => z.cps.toList.length) e
    simp [tx] at this
def digR (c : CodeD) (r : RD) (ch : Nat) : Int := if digZ c [ch] < 0 ∧ r.fold = true ∧ tx [ch] ≠ c.pd then digZ c (oc ch) else digZ c [ch]
theorem digR_lt {c : CodeD} (ok : c.Ok) (r : RD) (ch : Nat) : -1 ≤ digR c r ch ∧ digR c r ch < 64 := by
  unfold digR
  split
  · exact digZ_lt ok _
  · exact digZ_lt ok _
theorem r_dget2 {td ty tz : TE} {σ : S} {H : Hp} {Q : VK} (h : td σ H fun x H1 => ∃ a, x = .ref a ∧ IsD H1 a ∧ ty σ H1 fun y H2 => tz σ H2 fun z H3 => ∃ o, DGet H3 a y o ∧ Q (o.getD z) H3) : tDGet2 td ty tz σ H Q := h
theorem r_negI {i : Int} {H : Hp} {Q : VK} (h : Q (.int (-i)) H) : rNegI (.int i) H Q := ⟨i, rfl, h⟩
theorem dig_of {T : Txt K mg} {H : Hp} {a : Addr} {c : CodeD} {σ : S} {i : Nat} {l : List Nat} {ty : TE} {Q : VK} (h0 : σ[i]? = some (some (.ref a))) (h : CodeAt T H a c) (hy : ∀ Q' : VK, Q' (.str (tx l)) H → ty σ H Q') (q : Q (.int (digZ c l)) H) :
    tDGet2 (tFld K (tVar i) "digits") ty (tUn rNegI (tC (.int 1))) σ H Q := by
  obtain ⟨_, dx, tp, dg, kvs, h1, h2, h3, D⟩ := h
  refine r_dget2 ?_
  refine r_fldI h0 h1 T.C_Code_c T.C_Code_n_digits rfl ?_
  refine ⟨dg, rfl, .inl ⟨kvs, .inl h3⟩, hy _ ?_⟩
  refine r_un ?_
  refine r_c ?_
  refine r_negI ?_
  refine ⟨_, DGet.k (k := .inr (tx l)) h3, ?_⟩
  rw [dig_get D]
  exact q
def sp_Code_read_digit (T : Txt K mg) : Sp := fun vs H Q _ => ∃ a rr c r, ∃ ch : Nat, vs = [.ref a, .ref rr, .str (tx [ch])] ∧ CodeAt T H a c ∧ RulesAt T H rr r ∧ Q (.int (digR c r ch)) H
theorem len_Code_read_digit (T : Txt K mg) (vs : List V) (H : Hp) (Q : VK) (E : XK) (h : sp_Code_read_digit T vs H Q E) : vs.length = 3 := by
  obtain ⟨_, _, _, _, _, rfl, _⟩ := h
  rfl
def t_Code_read_digit (T : Txt K mg) : TS := (tSeq (tAsg (tDGet2 (tFld K (tVar 0) "digits") (tVar 2) (tUn rNegI (tC (.int 1)))) (gName 3))
    (tSeq (tIfS (tAnd (tTest (tOp rLtI (tVar 3) (tC (.int 0)))) (tAnd (tB (tProp T.C_Rules (sp_Rules_fold T) [] E0 (tVar 1))) (tTest (tOp (rNeU K) (tVar 2) (tProp T.C_Code (sp_Code_pad T) [] E0 (tVar 0)))))) (tRet (tDGet2 (tFld K (tVar 0) "digits") (tCall (sp_other_case T) [] E0 (tCons (tVar 2) tNil)) (tUn rNegI (tC (.int 1))))) tNext)
    (tRet (tVar 3))))

theorem pure_Code_read_digit (T : Txt K mg) (vs : List V) (H : Hp) (Q : VK) (E : XK) (h : sp_Code_read_digit T vs H Q E) : t_Code_read_digit T { nx := fun _ H' => Q .non H', rt := Q } (start ["self", "rules", "character", "digit"] vs) H := by
  obtain ⟨a, rr, c, r, ch, rfl, hc, hr, q⟩ := h
  unfold t_Code_read_digit
  unfold digR at q
  walk_at "rd"
  refine dig_of rfl hc (fun Q' z => r_var rfl z) ?_
  walk_at "rd"
  refine r_iteD (fun h => ?_) (fun h => ?_)
  · walk_at "rd"
    cases hf : r.fold with
    | false =>
      rw [if_neg (fun z => by rw [hf] at z; exact absurd z.2.1 (by decide))] at q
      walk_at "rd"
      exact q
    | true =>
      walk_at "rd"
      by_cases e : tx [ch] = c.pd
      · rw [if_neg (fun z => z.2.2 e)] at q
        rw [decide_eq_true e]
        walk_at "rd"
        exact q
      · rw [if_pos ⟨h, hf, e⟩] at q
        rw [decide_eq_false e]
        walk_at "rd"
        refine dig_of rfl hc (fun Q' z => ?_) q
        walk_at "rd"
        exact ⟨ch, rfl, z⟩
  · rw [if_neg (fun z => h z.1)] at q
    walk_at "rd"
    exact q
theorem ok_Code_read_digit (T : Txt K mg) : FnOk P w K mg base CX0 3 T.Code_read_digit_a T.Code_read_digit_d ["self", "rules", "character"] (sp_Code_read_digit T) := by
  refine T.Code_read_digit_f.ok sc_Code_read_digit (fun vs H Q E h => len_Code_read_digit T vs H Q E h) (fun cdv A outer s H vs Q E hr h => ⟨t_Code_read_digit T, PSs.nox ?_, pure_Code_read_digit T vs H Q E h⟩)
  have hu := hu64 hr
  exact (pss_cons (ps_set (i := 3) sc_Code_read_digit.nd rfl (.inl rfl) (pe_dget2 (hu_of hr) (pe_fld (pv 0) rfl) (pv 2) (pe_un un_neg pe_int) ⟨by rfl, by rfl, by rfl, by rfl⟩))
      (pss_cons (ps_if (PW.pt (pw_and (pt_cmpR op_lt (pv 3) pe_int (nomark _)) (pw_and (pt_val (pe_prop (pv 1) T.C_Rules_c T.Rules_fold_p (ok_Rules_fold T) (hr.mono (by decide)) T.Rules_fold_b .nil pass0 rfl)) (pw_and1 (pt_cmpR (op_neU hu) (pv 2) (pe_prop (pv 0) T.C_Code_c T.Code_pad_p (ok_Code_pad T) (hr.mono (by decide)) T.Code_pad_b .nil pass0 rfl) (nomark _)))))) (pss_one (ps_ret (pe_dget2 (hu_of hr) (pe_fld (pv 0) rfl) (pe_call (ok_other_case T) (hr.mono (by decide)) (by rfl) T.other_case_g T.other_case_f.kp T.other_case_b .nil pass0 (pa_cons (pv 2) pa_nil)) (pe_un un_neg pe_int) ⟨by rfl, by rfl, by rfl, by rfl⟩))) pss_nil)
      (pss_one (ps_ret (pv 3)))))

def kindC (c : CodeD) (r : RD) (ch : Nat) : Str := if ch = 10 then Str.ofString "line" else if tx [ch] = c.pd then Str.ofString "pad" else if 0 ≤ digR c r ch then Str.ofString "sign" else Str.ofString "noise"
theorem tx1_nl (ch : Nat) : (tx [ch] = tx [10]) ↔ ch = 10 := ⟨fun e => by cases tx_inj e; rfl, fun e => by rw [e]⟩
structure RC where
  b : List Nat
  sn : Nat
  col : Nat
  pn : Nat
  br : Bool
def padC (c : CodeD) (r : RD) (s : RC) : Bool := if c.pd = tx [] ∨ r.pads = Str.ofString "none" ∨ wholeC c r s.b = false then false else decide (r.pads = Str.ofString "any") || decide (s.pn < misC c s.sn)
def sp_Code_may_pad (T : Txt K mg) : Sp := fun vs H Q _ => ∃ a rr c r st, ∃ s : RC, vs = [.ref a, .ref rr, .ref st] ∧ CodeAt T H a c ∧ RulesAt T H rr r ∧ RStAt H st s.b s.sn s.col s.pn s.br ∧ s.b.length ≤ 1000 ∧ s.sn < grp c.sb ∧ Q (.bl (padC c r s)) H
theorem len_Code_may_pad (T : Txt K mg) (vs : List V) (H : Hp) (Q : VK) (E : XK) (h : sp_Code_may_pad T vs H Q E) : vs.length = 3 := by
  obtain ⟨_, _, _, _, _, _, rfl, _⟩ := h
  rfl
def t_Code_may_pad (T : Txt K mg) : TS := (tSeq (tIfS (tOr (tTest (tOp (rEqU K) (tProp T.C_Code (sp_Code_pad T) [] E0 (tVar 0)) (tC (.str (Str.ofString ""))))) (tOr (tTest (tOp (rEqU K) (tProp T.C_Rules (sp_Rules_pads T) [] E0 (tVar 1)) (tC (.str (Str.ofString "none"))))) (tNot (tB (tMeth T.C_Code "is_whole" (sp_Code_is_whole T) [] E0 (tVar 0) (tCons (tVar 1) (tCons (tOp (rIx K) (tVar 2) (tC (.int 0))) tNil))))))) (tRet (tC (.bl false))) tNext)
    (tRet (tOrV (tOp (rEqU K) (tProp T.C_Rules (sp_Rules_pads T) [] E0 (tVar 1)) (tC (.str (Str.ofString "any")))) (tOp rLtI (tOp (rIx K) (tVar 2) (tC (.int 3))) (tMeth T.C_Code "missing_pads" (sp_Code_missing_pads T) [] E0 (tVar 0) (tCons (tVar 2) tNil))))))

theorem pure_Code_may_pad (T : Txt K mg) (vs : List V) (H : Hp) (Q : VK) (E : XK) (h : sp_Code_may_pad T vs H Q E) : t_Code_may_pad T { nx := fun _ H' => Q .non H', rt := Q } (start ["self", "rules", "state"] vs) H := by
  obtain ⟨a, rr, c, r, st, s, rfl, hc, hr, hst, hl, hsn, q⟩ := h
  have hst' := hst
  unfold RStAt at hst
  unfold t_Code_may_pad
  unfold padC at q
  walk_at "rd"
  rw [e_tx]
  by_cases hp : c.pd = tx []
  · rw [decide_eq_true hp]
    rw [if_pos (.inl hp)] at q
    walk_at "rd"
    exact q
  rw [decide_eq_false hp]
  walk_at "rd"
  by_cases hn : r.pads = Str.ofString "none"
  · rw [decide_eq_true hn]
    rw [if_pos (.inr (.inl hn))] at q
    walk_at "rd"
    exact q
  rw [decide_eq_false hn]
  walk_at "rd"
  refine ⟨a, rr, c, r, s.b, rfl, hc, hr, hl, ?_⟩
  cases hw : wholeC c r s.b with
  | false =>
    rw [if_pos (.inr (.inr hw))] at q
    walk_at "rd"
    exact q
  | true =>
    rw [if_neg (fun z => z.elim hp fun z => z.elim hn fun z => by rw [hw] at z; cases z)] at q
    walk_at "rd"
    by_cases ha : r.pads = Str.ofString "any"
    · rw [decide_eq_true ha, Bool.true_or] at q
      rw [decide_eq_true ha]
      walk_at "rd"
      exact q
    · rw [decide_eq_false ha, Bool.false_or] at q
      rw [decide_eq_false ha]
      walk_at "rd"
      refine ⟨a, c, st, _, _, _, _, _, rfl, hc, hst', hsn, ?_⟩
      walk_at "rd"
      rw [show decide ((s.pn : Int) < (misC c s.sn : Nat)) = decide (s.pn < misC c s.sn) from decide_eq_decide.mpr (by omega)]
      exact q
theorem ok_Code_may_pad (T : Txt K mg) : FnOk P w K mg base CX0 4 T.Code_may_pad_a T.Code_may_pad_d ["self", "rules", "state"] (sp_Code_may_pad T) := by
  refine T.Code_may_pad_f.ok sc_Code_may_pad (fun vs H Q E h => len_Code_may_pad T vs H Q E h) (fun cdv A outer s H vs Q E hr h => ⟨t_Code_may_pad T, PSs.nox ?_, pure_Code_may_pad T vs H Q E h⟩)
  have hu := hu64 hr
  exact (pss_cons (ps_if (PW.pt (pw_or (pt_cmpR (op_eqU hu) (pe_prop (pv 0) T.C_Code_c T.Code_pad_p (ok_Code_pad T) (hr.mono (by decide)) T.Code_pad_b .nil pass0 rfl) pe_str (nomark _)) (pw_or (pt_cmpR (op_eqU hu) (pe_prop (pv 1) T.C_Rules_c T.Rules_pads_p (ok_Rules_pads T) (hr.mono (by decide)) T.Rules_pads_b .nil pass0 rfl) pe_str (nomark _)) (pw_or1 (pt_not (pt_val (pe_meth (pv 0) T.C_Code_c T.Code_is_whole_m (ok_Code_is_whole T) (hr.mono (by decide)) T.Code_is_whole_b .nil pass0 (pa_cons (pv 1) (pa_cons (pe_ix ix_seq (pv 2) pe_int (fun _ _ => rfl)) pa_nil))))))))) (pss_one (ps_ret pe_bl)) pss_nil)
      (pss_one (ps_ret (pe_or (pe_cmpR (op_eqU hu) (pe_prop (pv 1) T.C_Rules_c T.Rules_pads_p (ok_Rules_pads T) (hr.mono (by decide)) T.Rules_pads_b .nil pass0 rfl) pe_str (nomark _)) (pe_one (pe_cmpR op_lt (pe_ix ix_seq (pv 2) pe_int (fun _ _ => rfl)) (pe_meth (pv 0) T.C_Code_c T.Code_missing_pads_m (ok_Code_missing_pads T) (hr.mono (by decide)) T.Code_missing_pads_b .nil pass0 (pa_cons (pv 2) pa_nil)) (nomark _)))))))


end
section
variable {w : World} {K : PySem.W.Frag} {mg : Str → Option Value} {base : Heap}
local macro_rules | `(tactic| walk_at "hc") => `(tactic| first
  | assumption
  | ((refine CodeAt.same (H := ?xH) ?xb ?xa); (case xa => assumption); (case xb => walk_at "hc")))
local macro_rules | `(tactic| walk_at "rd0") => `(tactic| first
  | ((with_reducible refine r_get (a := ?xa) (c := ?xc) ?x1 ?x2 ?_); (case x1 => rfl); (case x2 => walk_at "hc"))
  | ((with_reducible refine r_methC (a := ?xa) (c := ?xc) ?x1 ?x2 ?x3 ?_); (case x1 => rfl); (case x2 => walk_at "hc"); (case x3 => (intro _ _ _; rfl)))
  | (with_reducible refine r_fmtB ?_)
  | (with_reducible refine r_dget ?_)
  | (with_reducible refine r_m0 ?_)
  | (with_reducible refine r_makeK ?_)
  | (with_reducible refine r_cval ?_)
  | (with_reducible refine r_sfld ?_)
  | (with_reducible refine r_isiI ?_)
  | (with_reducible refine r_isiIB ?_)
  | (with_reducible refine r_isiS ?_)
  | (with_reducible refine r_inID ?_))

local macro_rules | `(tactic| walk_at "hcr") => `(tactic| first
  | assumption
  | ((refine RulesAt.same (H := ?xH) ?xb ?xa); (case xa => assumption); (case xb => walk_at "hcr")))
local macro_rules | `(tactic| walk_at "rd0") => `(tactic| first
  | ((with_reducible refine r_getR (a := ?xa) (r := ?xr) ?x1 ?x2 ?_); (case x1 => rfl); (case x2 => walk_at "hcr")))

set_option hygiene false in
local macro_rules | `(tactic| walk_at "n1") => `(tactic| (refine And.intro (by walk_at "sz") ?_; intro p1 np1; generalize hg : upd _ p1 _ = H1; have s1 := same_of hg np1; have v1 := at_of hg; clear hg))
set_option hygiene false in
local macro_rules | `(tactic| walk_at "n2") => `(tactic| (refine And.intro (by walk_at "sz") ?_; intro p2 np2; generalize hg : upd _ p2 _ = H2; have s2 := same_of hg np2; have v2 := at_of hg; clear hg))
set_option hygiene false in
local macro_rules | `(tactic| walk_at "n3") => `(tactic| (refine And.intro (by walk_at "sz") ?_; intro p3 np3; generalize hg : upd _ p3 _ = H3; have s3 := same_of hg np3; have v3 := at_of hg; clear hg))
set_option hygiene false in
local macro_rules | `(tactic| walk_at "n4") => `(tactic| (refine And.intro (by walk_at "sz") ?_; intro p4 np4; generalize hg : upd _ p4 _ = H4; have s4 := same_of hg np4; have v4 := at_of hg; clear hg))

/-! ### a character is taken -/
theorem sIx_le_nat {n d k : Nat} {i : Int} (hi : i = (k : Int)) (h : k ≤ n) : HT.sIx n d (some i) = k := by
  rw [hi, HT.sIx_nat]
  omega
theorem cut_take {l : List Nat} {k : Nat} (h : k ≤ l.length) : cutS (tx l) none (some (k : Int)) = tx (l.take k) := by
  unfold cutS
  rw [tx_len, HT.sIx_none, sIx_le_nat rfl h, tx_list]
  rfl
theorem cut_drop {l : List Nat} {k : Nat} (h : k ≤ l.length) : cutS (tx l) (some (k : Int)) none = tx (l.drop k) := by
  unfold cutS
  rw [tx_len, HT.sIx_none, sIx_le_nat rfl h, tx_list]
  show tx ((l.drop k).take (l.length - k)) = _
  rw [List.take_of_length_le (by rw [List.length_drop]; exact Nat.le_refl _)]
def b8 (n : Nat) : List Nat := [48 + n / 128 % 2, 48 + n / 64 % 2, 48 + n / 32 % 2, 48 + n / 16 % 2, 48 + n / 8 % 2, 48 + n / 4 % 2, 48 + n / 2 % 2, 48 + n % 2]
theorem bin8_tx (n : Nat) : bin8 n = tx (b8 n) := rfl
def Bits (l : List Nat) : Prop := ∀ c ∈ l, Bn.IsBit c
theorem b8_bits (n : Nat) : Bits (b8 n) := by
  have h : ∀ m : Nat, Bn.IsBit (48 + m % 2) := fun m => by unfold Bn.IsBit; omega
  intro c hc
  simp only [b8, List.mem_cons, List.not_mem_nil, or_false] at hc
  rcases hc with rfl | rfl | rfl | rfl | rfl | rfl | rfl | rfl <;> exact h _
theorem Bits.app {a b : List Nat} (h : Bits a) (k : Bits b) : Bits (a ++ b) := fun c hc => (List.mem_append.mp hc).elim (h c) (k c)
theorem Bits.take {a : List Nat} (h : Bits a) (k : Nat) : Bits (a.take k) := fun c hc => h c (List.mem_of_mem_take hc)
theorem Bits.drop {a : List Nat} (h : Bits a) (k : Nat) : Bits (a.drop k) := fun c hc => h c (List.mem_of_mem_drop hc)
theorem grp_pos {n : Nat} (h1 : 1 ≤ n) (h6 : n ≤ 6) : 0 < grp n := by
  have e : n = 1 ∨ n = 2 ∨ n = 3 ∨ n = 4 ∨ n = 5 ∨ n = 6 := by omega
  rcases e with rfl | rfl | rfl | rfl | rfl | rfl <;> decide
abbrev nv (n : Nat) : V := .int (n : Nat)
structure FitC (c : CodeD) (s : RC) : Prop where
  bits : Bits s.b
  len : s.b.length < 8
  sn : s.sn < grp c.sb
def colC (c : CodeD) (r : RD) (col : Nat) : Nat := if rowsC c r = true then c.nxt col else 0
def onC (c : CodeD) (b : List Nat) (sn col : Nat) : List Nat × RC :=
  if 8 ≤ b.length then ([Bn.binNum (b.take 8)], ⟨b.drop 8, (sn + 1) % grp c.sb, col, 0, false⟩) else ([], ⟨b, (sn + 1) % grp c.sb, col, 0, false⟩)
def takeC (c : CodeD) (r : RD) (s : RC) (ch : Nat) : Option (List Nat × RC) :=
  if ch ∈ r.skip then some ([], s) else
  if ch = 10 then (if (rowsC c r && c.full s.col) = true ∧ (s.pn = 0 ∨ padC c r s = true) then some ([], ⟨s.b, s.sn, 0, s.pn, true⟩) else none) else
  if (rowsC c r && c.full s.col) = true then none else
  if tx [ch] = c.pd then (if padC c r s = true then some ([], ⟨s.b, s.sn, colC c r s.col, if r.pads = Str.ofString "any" then 1 else s.pn + 1, false⟩) else none) else
  if digR c r ch < 0 ∨ 0 < s.pn then none else
  some (onC c (s.b ++ (b8 (digR c r ch).toNat).drop (8 - c.sb)) s.sn (colC c r s.col))
theorem b8_len (n : Nat) : (b8 n).length = 8 := rfl
theorem FitC.on {c : CodeD} (ok : c.Ok) {s : RC} (F : FitC c s) (n col : Nat) : FitC c (onC c (s.b ++ (b8 n).drop (8 - c.sb)) s.sn col).2 := by
  have hb1 := ok.b1
  have hb6 := ok.b6
  have gp := grp_pos hb1 hb6
  have hl : (s.b ++ (b8 n).drop (8 - c.sb)).length = s.b.length + c.sb := by
    rw [List.length_append, List.length_drop, b8_len]
    omega
  have hb : Bits (s.b ++ (b8 n).drop (8 - c.sb)) := F.bits.app ((b8_bits n).drop _)
  have h1 := F.len
  unfold onC
  by_cases h : 8 ≤ (s.b ++ (b8 n).drop (8 - c.sb)).length
  · rw [if_pos h]
    exact ⟨hb.drop 8, by show (List.drop 8 _).length < 8; rw [List.length_drop, hl]; omega, Nat.mod_lt _ gp⟩
  · rw [if_neg h]
    exact ⟨hb, by show (s.b ++ _).length < 8; omega, Nat.mod_lt _ gp⟩
theorem FitC.take {c : CodeD} (ok : c.Ok) {r : RD} {s s' : RC} {ch : Nat} {ds : List Nat} (F : FitC c s) (h : takeC c r s ch = some (ds, s')) : FitC c s' := by
  have wk : ∀ (col pn : Nat) (br : Bool), FitC c ⟨s.b, s.sn, col, pn, br⟩ := fun _ _ _ => ⟨F.bits, F.len, F.sn⟩
  unfold takeC at h
  by_cases h1 : ch ∈ r.skip
  · rw [if_pos h1] at h
    cases h
    exact F
  rw [if_neg h1] at h
  by_cases h2 : ch = 10
  · rw [if_pos h2] at h
    by_cases h3 : (rowsC c r && c.full s.col) = true ∧ (s.pn = 0 ∨ padC c r s = true)
    · rw [if_pos h3] at h
      cases h
      exact wk _ _ _
    · rw [if_neg h3] at h
      cases h
  rw [if_neg h2] at h
  by_cases h3 : (rowsC c r && c.full s.col) = true
  · rw [if_pos h3] at h
    cases h
  rw [if_neg h3] at h
  by_cases h4 : tx [ch] = c.pd
  · rw [if_pos h4] at h
    by_cases h5 : padC c r s = true
    · rw [if_pos h5] at h
      cases h
      exact wk _ _ _
    · rw [if_neg h5] at h
      cases h
  rw [if_neg h4] at h
  by_cases h5 : digR c r ch < 0 ∨ 0 < s.pn
  · rw [if_pos h5] at h
    cases h
  rw [if_neg h5] at h
  have e : (onC c (s.b ++ (b8 (digR c r ch).toNat).drop (8 - c.sb)) s.sn (colC c r s.col)).2 = s' := congrArg Prod.snd (Option.some.inj h)
  exact e ▸ F.on ok _ _
theorem r_inC {c : Nat} {z : Str} {H : Hp} {Q : VK} (h : Q (.bl (decide (c ∈ z.cps.toList))) H) : rInU K (.str (tx [c])) (.str z) H Q := r_inS ⟨c, z, rfl, rfl, h⟩
def sp_Code_take (T : Txt K mg) : Sp := fun vs H Q _ => ∃ a rr c r st, ∃ s : RC, ∃ ch : Nat, vs = [.ref a, .ref rr, .ref st, .str (tx [ch])] ∧ CodeAt T H a c ∧ RulesAt T H rr r ∧ RStAt H st s.b s.sn s.col s.pn s.br ∧ FitC c s ∧
  (takeC c r s ch = none → ∀ H', Same H H' → Q .non H') ∧
  ∀ ds s', takeC c r s ch = some (ds, s') → ∀ p l st' H', Same H H' → H p = none → H l = none → (st' = st ∨ H st' = none) → H' p = some (.tup [.ref l, .ref st']) → H' l = some (.lst (ds.map nv)) → RStAt H' st' s'.b s'.sn s'.col s'.pn s'.br → Q (.ref p) H'
theorem len_Code_take (T : Txt K mg) (vs : List V) (H : Hp) (Q : VK) (E : XK) (h : sp_Code_take T vs H Q E) : vs.length = 4 := by
  obtain ⟨_, _, _, _, _, _, _, rfl, _⟩ := h
  rfl
theorem shaped_nvs (l : List Nat) : SeqAt.shaped (.list ((l.map fun n : Nat => (n : Int)).map PyData.int)) = true := shaped_list_ints _
theorem dp_ns {H : Hp} {a : Addr} {l : List Nat} (h : SqL K H a (l.map nv)) : Dp K H (.ref a) (.list ((l.map fun n : Nat => (n : Int)).map PyData.int)) := by
  have e : l.map nv = (l.map fun n : Nat => (n : Int)).map V.int := by rw [List.map_map]; rfl
  rw [e] at h
  exact .lst h (dpAll_ints _)
theorem r_neN {H : Hp} {Q : VK} {a b : Addr} {l m : List Nat} (h1 : SqL K H a (l.map nv)) (h2 : SqL K H b (m.map nv)) (h : Q (.bl (!decide (l = m))) H) : rNeU K (.ref a) (.ref b) H Q := by
  refine r_neUD (dp_ns h1) (dp_ns h2) (shaped_nvs _) (shaped_nvs _) ?_
  have e : PyData.eqv (.list ((l.map fun n : Nat => (n : Int)).map PyData.int)) (.list ((m.map fun n : Nat => (n : Int)).map PyData.int)) = decide (l = m) := by
    simp only [PyData.eqv, eqv_ints]
    refine decide_eq_decide.mpr ⟨fun z => ?_, fun z => by rw [z]⟩
    exact (List.map_inj_right fun x y h => Int.ofNat.inj h).mp z
  rw [e]
  exact h
def t_Code_take (T : Txt K mg) : TS := (tSeq (tAsg (tVar 2) (gTup K 5 (gCons (gName 4) (gCons (gName 5) (gCons (gName 6) (gCons (gName 7) (gCons (gName 8) gNil)))))))
    (tSeq (tIfS (tTest (tOp (rInU K) (tVar 3) (tProp T.C_Rules (sp_Rules_skip T) [] E0 (tVar 1)))) (tRet (tTup (tCons (tLst tNil) (tCons (tVar 2) tNil)))) tNext)
    (tSeq (tAsg (tAndV (tMeth T.C_Code "has_rows" (sp_Code_has_rows T) [] E0 (tVar 0) (tCons (tVar 1) tNil)) (tMeth T.C_Code "is_full" (sp_Code_is_full T) [] E0 (tVar 0) (tCons (tVar 6) tNil))) (gName 9))
    (tSeq (tIfS (tTest (tOp (rEqU K) (tVar 3) (tC (.str (Str.ofString "\n"))))) (tSeq (tAsg (tOrV (tOp (rEqU K) (tVar 7) (tC (.int 0))) (tMeth T.C_Code "may_pad" (sp_Code_may_pad T) [] E0 (tVar 0) (tCons (tVar 1) (tCons (tVar 2) tNil)))) (gName 10))
    (tRet (tIf (tAnd (tB (tVar 9)) (tB (tVar 10))) (tTup (tCons (tLst tNil) (tCons (tTup (tCons (tVar 4) (tCons (tVar 5) (tCons (tC (.int 0)) (tCons (tVar 7) (tCons (tC (.bl true)) tNil)))))) tNil))) (tC .non)))) tNext)
    (tSeq (tIfS (tB (tVar 9)) (tRet (tC .non)) tNext)
    (tSeq (tAsg (tIf (tB (tMeth T.C_Code "has_rows" (sp_Code_has_rows T) [] E0 (tVar 0) (tCons (tVar 1) tNil))) (tMeth T.C_Code "next_column" (sp_Code_next_column T) [] E0 (tVar 0) (tCons (tVar 6) tNil)) (tC (.int 0))) (gName 6))
    (tSeq (tIfS (tTest (tOp (rEqU K) (tVar 3) (tProp T.C_Code (sp_Code_pad T) [] E0 (tVar 0)))) (tSeq (tAsg (tIf (tTest (tOp (rEqU K) (tProp T.C_Rules (sp_Rules_pads T) [] E0 (tVar 1)) (tC (.str (Str.ofString "any"))))) (tC (.int 1)) (tOp (rAddU K) (tVar 7) (tC (.int 1)))) (gName 7))
    (tRet (tIf (tB (tMeth T.C_Code "may_pad" (sp_Code_may_pad T) [] E0 (tVar 0) (tCons (tVar 1) (tCons (tVar 2) tNil)))) (tTup (tCons (tLst tNil) (tCons (tTup (tCons (tVar 4) (tCons (tVar 5) (tCons (tVar 6) (tCons (tVar 7) (tCons (tC (.bl false)) tNil)))))) tNil))) (tC .non)))) tNext)
    (tSeq (tAsg (tMeth T.C_Code "read_digit" (sp_Code_read_digit T) [] E0 (tVar 0) (tCons (tVar 1) (tCons (tVar 3) tNil))) (gName 11))
    (tSeq (tIfS (tOr (tTest (tOp rLtI (tVar 11) (tC (.int 0)))) (tTest (tOp rGtI (tVar 7) (tC (.int 0))))) (tRet (tC .non)) tNext)
    (tSeq (tAug 4 (tSl (rSlU K) (tFmtB bin8 (tVar 11)) (tPart (tOp rSubI (tC (.int 8)) (tProp T.C_Code (sp_Code_bits T) [] E0 (tVar 0)))) tNoPart) (rIaddU K))
    (tSeq (tAsg (tIf (tTest (tOp rGeI (tCB (rLenU K) (tCons (tVar 4) tNil)) (tC (.int 8)))) (tLst (tCons (tCB rIntBin (tCons (tSl (rSlU K) (tVar 4) tNoPart (tPart (tC (.int 8)))) (tCons (tC (.int 2)) tNil))) tNil)) (tLst tNil)) (gName 12))
    (tSeq (tAsg (tIf (tTest (tOp (rNeU K) (tVar 12) (tLst tNil))) (tSl (rSlU K) (tVar 4) (tPart (tC (.int 8))) tNoPart) (tVar 4)) (gName 4))
    (tRet (tTup (tCons (tVar 12) (tCons (tTup (tCons (tVar 4) (tCons (tOp rModI (tOp (rAddU K) (tVar 5) (tC (.int 1))) (tProp T.C_Code (sp_Code_group T) [] E0 (tVar 0))) (tCons (tVar 6) (tCons (tC (.int 0)) (tCons (tC (.bl false)) tNil)))))) tNil))))))))))))))))

theorem pure_Code_take (T : Txt K mg) (vs : List V) (H : Hp) (Q : VK) (E : XK) (h : sp_Code_take T vs H Q E) : t_Code_take T { nx := fun _ H' => Q .non H', rt := Q } (start ["self", "rules", "state", "character", "bits", "signs", "column", "pads", "broken", "is_full", "may_go_on", "digit", "found"] vs) H := by
  obtain ⟨a, rr, c, r, st, s, ch, rfl, hc, hr, hst, F, qn, qs⟩ := h
  have hst' := hst
  have ok := hc.1
  have hb1 := ok.b1
  have hb6 := ok.b6
  have gp := grp_pos hb1 hb6
  have Fl := F.len
  unfold RStAt at hst qs
  unfold t_Code_take
  unfold takeC at qn qs
  walk_at "rd"
  refine r_inC ?_
  walk_at "rd"
  rw [tx_list]
  refine r_iteD (fun h1 => ?_) (fun h1 => ?_)
  · rw [if_pos h1] at qs
    walk_at "rd"
    walk_at "n1"
    walk_at "rd"
    walk_at "n2"
    exact qs _ _ rfl p2 p1 st H2 (s1.trans s2) (s1.free np2) np1 (.inl rfl) v2 (s2 _ _ v1) ((s1.trans s2) _ _ hst)
  rw [if_neg h1] at qn qs
  walk_at "rx"
  refine r_seqC (fun σ G => G = H ∧ σ = [some (.ref a), some (.ref rr), some (.ref st), some (.str (tx [ch])), some (.str (tx s.b)), some (.int s.sn), some (.int s.col), some (.int s.pn), some (.bl s.br), some (.bl (rowsC c r && c.full s.col)), none, none, none]) ?_ fun N tail => ?_
  · rintro σ G ⟨rfl, rfl⟩
    generalize hfu : (rowsC c r && c.full s.col) = fu at qn qs
    walk_at "rd"
    rw [nl_tx]
    refine r_iteD (fun h2 => ?_) (fun h2 => ?_)
    · have h2' := (tx1_nl ch).mp h2
      rw [if_pos h2'] at qn qs
      walk_at "rx"
      refine r_seqC (fun σ G' => G' = G ∧ σ = [some (.ref a), some (.ref rr), some (.ref st), some (.str (tx [ch])), some (.str (tx s.b)), some (.int s.sn), some (.int s.col), some (.int s.pn), some (.bl s.br), some (.bl fu), some (.bl (decide (s.pn = 0 ∨ padC c r s = true))), none, none]) ?_ fun N tail => ?_
      · rintro σ G' ⟨rfl, rfl⟩
        walk_at "rd"
        cases fu with
        | false =>
          rw [if_neg (fun z => by cases z.1)] at qn
          walk_at "rd"
          exact qn rfl G' (Same.refl _)
        | true =>
          walk_at "rd"
          refine r_iteD (fun h3 => ?_) (fun h3 => ?_)
          · rw [if_pos ⟨rfl, h3⟩] at qs
            walk_at "rd"
            walk_at "n1"
            walk_at "rd"
            walk_at "n2"
            walk_at "rd"
            walk_at "n3"
            exact qs _ _ rfl p3 p1 p2 H3 ((s1.trans s2).trans s3) ((s1.trans s2).free np3) np1 (.inr (s1.free np2)) v3 ((s2.trans s3) _ _ v1) (s3 _ _ v2)
          · rw [if_neg (fun z => h3 z.2)] at qn
            walk_at "rd"
            exact qn rfl G' (Same.refl _)
      · walk_at "rd"
        by_cases e : s.pn = 0
        · rw [decide_eq_true (show s.pn = 0 ∨ padC c r s = true from .inl e)] at tail
          rw [show decide ((s.pn : Int) = 0) = true from decide_eq_true (by omega)]
          walk_at "rd"
          exact tail _ _ ⟨rfl, rfl⟩
        · rw [show decide ((s.pn : Int) = 0) = false from decide_eq_false (by omega)]
          rw [show decide (s.pn = 0 ∨ padC c r s = true) = padC c r s by simp [e]] at tail
          walk_at "rd"
          refine ⟨a, rr, c, r, st, s, rfl, hc, hr, hst', by omega, F.sn, ?_⟩
          exact tail _ _ ⟨rfl, rfl⟩
    · have h2' : ¬ ch = 10 := fun z => h2 ((tx1_nl ch).mpr z)
      rw [if_neg h2'] at qn qs
      walk_at "rd"
      cases fu with
      | true =>
        rw [if_pos rfl] at qn
        walk_at "rd"
        exact qn rfl G (Same.refl _)
      | false =>
      rw [if_neg (by decide)] at qn qs
      walk_at "rx"
      refine r_seqC (fun σ G' => G' = G ∧ σ = [some (.ref a), some (.ref rr), some (.ref st), some (.str (tx [ch])), some (.str (tx s.b)), some (.int s.sn), some (.int (colC c r s.col : Nat)), some (.int s.pn), some (.bl s.br), some (.bl false), none, none, none]) ?_ fun N tail => ?_
      · rintro σ G' ⟨rfl, rfl⟩
        generalize colC c r s.col = col at qs
        walk_at "rd"
        refine r_iteD (fun h4 => ?_) (fun h4 => ?_)
        · rw [if_pos h4] at qn qs
          walk_at "rx"
          refine r_seqC (fun σ G => G = G' ∧ σ = [some (.ref a), some (.ref rr), some (.ref st), some (.str (tx [ch])), some (.str (tx s.b)), some (.int s.sn), some (.int (col : Nat)), some (.int ((if r.pads = Str.ofString "any" then 1 else s.pn + 1 : Nat))), some (.bl s.br), some (.bl false), none, none, none]) ?_ fun N tail => ?_
          · rintro σ G ⟨rfl, rfl⟩
            generalize (if r.pads = Str.ofString "any" then 1 else s.pn + 1 : Nat) = pn at qs
            walk_at "rd"
            refine ⟨a, rr, c, r, st, s, rfl, hc, hr, hst', by omega, F.sn, ?_⟩
            walk_at "rd"
            refine r_iteB (fun h5 => ?_) (fun h5 => ?_)
            · rw [if_pos h5] at qs
              walk_at "rd"
              walk_at "n1"
              walk_at "rd"
              walk_at "n2"
              walk_at "rd"
              walk_at "n3"
              exact qs _ _ rfl p3 p1 p2 H3 ((s1.trans s2).trans s3) ((s1.trans s2).free np3) np1 (.inr (s1.free np2)) v3 ((s2.trans s3) _ _ v1) (s3 _ _ v2)
            · rw [if_neg (by rw [h5]; decide)] at qn
              walk_at "rd"
              exact qn rfl G (Same.refl _)
          · walk_at "rd"
            refine r_iteD (fun h5 => ?_) (fun h5 => ?_)
            · rw [if_pos h5] at tail
              walk_at "rd"
              exact tail _ _ ⟨rfl, rfl⟩
            · rw [if_neg h5] at tail
              walk_at "rd"
              exact tail _ _ ⟨rfl, rfl⟩
        rw [if_neg h4] at qn qs
        walk_at "rd"
        refine ⟨a, rr, c, r, ch, rfl, hc, hr, ?_⟩
        have dl := digR_lt ok r ch
        generalize digR c r ch = dg at qn qs dl
        walk_at "rd"
        refine r_iteD (fun h5 => ?_) (fun h5 => ?_)
        · rw [if_pos (.inl h5)] at qn
          walk_at "rd"
          exact qn rfl G' (Same.refl _)
        walk_at "rd"
        refine r_iteD (fun h6 => ?_) (fun h6 => ?_)
        · rw [if_pos (.inr (by omega))] at qn
          walk_at "rd"
          exact qn rfl G' (Same.refl _)
        rw [if_neg (fun z => by omega)] at qs
        obtain ⟨n, rfl⟩ := Int.eq_ofNat_of_zero_le (show 0 ≤ dg by omega)
        rw [Int.toNat_natCast] at qs
        walk_at "rd"
        refine ⟨n, rfl, by omega, ?_⟩
        rw [bin8_tx]
        walk_at "rx"
        rw [show (8 : Int) - (c.sb : Int) = ((8 - c.sb : Nat) : Int) by omega]
        walk_at "rx"
        refine r_slUS (smallS (by rw [tx_len]; exact (by decide : 8 ≤ 100000))) ?_
        rw [cut_drop (by rw [b8_len]; omega)]
        have hl : (s.b ++ (b8 n).drop (8 - c.sb)).length = s.b.length + c.sb := by
          rw [List.length_append, List.length_drop, b8_len]
          omega
        refine r_iaddS (smallS (by rw [tx_len, tx_len]; rw [List.length_append] at hl; omega)) ?_
        rw [tx_app]
        have hb : Bits (s.b ++ (b8 n).drop (8 - c.sb)) := F.bits.app ((b8_bits n).drop _)
        generalize s.b ++ (b8 n).drop (8 - c.sb) = B at hl hb qs
        unfold onC at qs
        have ef : ((s.sn : Int) + 1).fmod (grp c.sb : Int) = (((s.sn + 1) % grp c.sb : Nat) : Int) := by
          rw [Int.fmod_eq_emod_of_nonneg _ (Int.natCast_nonneg _), Int.natCast_emod]
          rfl
        walk_at "rd"
        refine r_lenUS (smallS (by rw [tx_len]; omega)) ?_
        walk_at "rd"
        rw [tx_len]
        refine r_iteD (fun h7 => ?_) (fun h7 => ?_)
        · have h8 : 8 ≤ B.length := by omega
          have l8 : (B.take 8).length = 8 := by rw [List.length_take]; omega
          rw [if_pos h8] at qs
          walk_at "rd"
          refine r_slUS (smallS (by rw [tx_len]; omega)) ?_
          rw [show (8 : Int) = ((8 : Nat) : Int) from rfl, cut_take h8]
          walk_at "rd"
          refine r_intBin (by rw [tx_list]; intro z; rw [z] at l8; simp at l8) (by rw [tx_len]; omega) (by rw [tx_list]; exact hb.take _) ?_
          rw [tx_list]
          walk_at "rd"
          walk_at "n1"
          walk_at "rd"
          walk_at "n2"
          walk_at "rd"
          refine r_neN (l := [Bn.binNum (B.take 8)]) (m := []) (ql (s2 _ _ v1)) (ql v2) ?_
          rw [show decide ([Bn.binNum (B.take 8)] = []) = false from decide_eq_false (by simp)]
          walk_at "rd"
          refine r_slUS (smallS (by rw [tx_len]; omega)) ?_
          rw [cut_drop h8]
          walk_at "rd"
          rw [ef]
          walk_at "n3"
          walk_at "rd"
          walk_at "n4"
          exact qs _ _ rfl p4 p1 p3 H4 (((s1.trans s2).trans s3).trans s4) (((s1.trans s2).trans s3).free np4) np1 (.inr ((s1.trans s2).free np3)) v4 (((s2.trans s3).trans s4) _ _ v1) (s4 _ _ v3)
        · have h8 : ¬ 8 ≤ B.length := by omega
          rw [if_neg h8] at qs
          walk_at "rd"
          walk_at "n1"
          walk_at "rd"
          walk_at "n2"
          walk_at "rd"
          refine r_neN (l := []) (m := []) (ql (s2 _ _ v1)) (ql v2) ?_
          rw [show decide (([] : List Nat) = []) = true from decide_eq_true rfl]
          walk_at "rd"
          rw [ef]
          walk_at "n3"
          walk_at "rd"
          walk_at "n4"
          exact qs _ _ rfl p4 p1 p3 H4 (((s1.trans s2).trans s3).trans s4) (((s1.trans s2).trans s3).free np4) np1 (.inr ((s1.trans s2).free np3)) v4 (((s2.trans s3).trans s4) _ _ v1) (s4 _ _ v3)
      · walk_at "rd"
        refine ⟨a, rr, c, r, rfl, hc, hr, ?_⟩
        walk_at "rd"
        refine r_iteB (fun h5 => ?_) (fun h5 => ?_)
        · unfold colC at tail
          rw [if_pos h5] at tail
          walk_at "rd"
          refine ⟨a, c, _, rfl, hc, ?_⟩
          walk_at "rd"
          exact tail _ _ ⟨rfl, rfl⟩
        · unfold colC at tail
          rw [if_neg (by rw [h5]; decide)] at tail
          walk_at "rd"
          exact tail _ _ ⟨rfl, rfl⟩
  · walk_at "rd"
    refine ⟨a, rr, c, r, rfl, hc, hr, ?_⟩
    cases hrw : rowsC c r with
    | false =>
      rw [hrw] at tail
      walk_at "rd"
      exact tail _ _ ⟨rfl, rfl⟩
    | true =>
      rw [hrw] at tail
      walk_at "rd"
      refine ⟨a, c, _, rfl, hc, ?_⟩
      exact tail _ _ ⟨rfl, rfl⟩
theorem ok_Code_take (T : Txt K mg) : FnOk P w K mg base CX0 5 T.Code_take_a T.Code_take_d ["self", "rules", "state", "character"] (sp_Code_take T) := by
  refine T.Code_take_f.ok sc_Code_take (fun vs H Q E h => len_Code_take T vs H Q E h) (fun cdv A outer s H vs Q E hr h => ⟨t_Code_take T, PSs.nox ?_, pure_Code_take T vs H Q E h⟩)
  have hu := hu64 hr
  exact (pss_cons (ps_asg (pv 2) (pg_tup (by rfl) (pgs_cons (pg_name (i := 4) sc_Code_take.nd rfl (.inl rfl)) (pgs_cons (pg_name (i := 5) sc_Code_take.nd rfl (.inl rfl)) (pgs_cons (pg_name (i := 6) sc_Code_take.nd rfl (.inl rfl)) (pgs_cons (pg_name (i := 7) sc_Code_take.nd rfl (.inl rfl)) (pgs_cons (pg_name (i := 8) sc_Code_take.nd rfl (.inl rfl)) pgs_nil)))))))
      (pss_cons (ps_if (pt_cmpR op_inU (pv 3) (pe_prop (pv 1) T.C_Rules_c T.Rules_skip_p (ok_Rules_skip T) (hr.mono (by decide)) T.Rules_skip_b .nil pass0 rfl) (by rfl)) (pss_one (ps_ret (pe_tup (pa_cons (pe_lst pa_nil) (pa_cons (pv 2) pa_nil))))) pss_nil)
      (pss_cons (ps_set (i := 9) sc_Code_take.nd rfl (.inl rfl) (pe_and (pe_meth (pv 0) T.C_Code_c T.Code_has_rows_m (ok_Code_has_rows T) (hr.mono (by decide)) T.Code_has_rows_b .nil pass0 (pa_cons (pv 1) pa_nil)) (pe_one (pe_meth (pv 0) T.C_Code_c T.Code_is_full_m (ok_Code_is_full T) (hr.mono (by decide)) T.Code_is_full_b .nil pass0 (pa_cons (pv 6) pa_nil)))))
      (pss_cons (ps_if (pt_cmpR (op_eqU hu) (pv 3) (pe_glob (by rfl) T.k_NEWLINE_g T.k_NEWLINE_r) (nomark _)) (pss_cons (ps_set (i := 10) sc_Code_take.nd rfl (.inl rfl) (pe_or (pe_cmpR (op_eqU hu) (pv 7) pe_int (nomark _)) (pe_one (pe_meth (pv 0) T.C_Code_c T.Code_may_pad_m (ok_Code_may_pad T) (hr.mono (by decide)) T.Code_may_pad_b .nil pass0 (pa_cons (pv 1) (pa_cons (pv 2) pa_nil))))))
      (pss_one (ps_ret (pe_ifExp (PW.pt (pw_and (pt_val (pv 9)) (pw_and1 (pt_val (pv 10))))) (pe_tup (pa_cons (pe_lst pa_nil) (pa_cons (pe_tup (pa_cons (pv 4) (pa_cons (pv 5) (pa_cons pe_int (pa_cons (pv 7) (pa_cons pe_bl pa_nil)))))) pa_nil))) pe_non)))) pss_nil)
      (pss_cons (ps_if (pt_val (pv 9)) (pss_one (ps_ret pe_non)) pss_nil)
      (pss_cons (ps_set (i := 6) sc_Code_take.nd rfl (.inl rfl) (pe_ifExp (pt_val (pe_meth (pv 0) T.C_Code_c T.Code_has_rows_m (ok_Code_has_rows T) (hr.mono (by decide)) T.Code_has_rows_b .nil pass0 (pa_cons (pv 1) pa_nil))) (pe_meth (pv 0) T.C_Code_c T.Code_next_column_m (ok_Code_next_column T) (hr.mono (by decide)) T.Code_next_column_b .nil pass0 (pa_cons (pv 6) pa_nil)) pe_int))
      (pss_cons (ps_if (pt_cmpR (op_eqU hu) (pv 3) (pe_prop (pv 0) T.C_Code_c T.Code_pad_p (ok_Code_pad T) (hr.mono (by decide)) T.Code_pad_b .nil pass0 rfl) (nomark _)) (pss_cons (ps_set (i := 7) sc_Code_take.nd rfl (.inl rfl) (pe_ifExp (pt_cmpR (op_eqU hu) (pe_prop (pv 1) T.C_Rules_c T.Rules_pads_p (ok_Rules_pads T) (hr.mono (by decide)) T.Rules_pads_b .nil pass0 rfl) pe_str (nomark _)) pe_int (pe_op op_addU (pv 7) pe_int)))
      (pss_one (ps_ret (pe_ifExp (pt_val (pe_meth (pv 0) T.C_Code_c T.Code_may_pad_m (ok_Code_may_pad T) (hr.mono (by decide)) T.Code_may_pad_b .nil pass0 (pa_cons (pv 1) (pa_cons (pv 2) pa_nil)))) (pe_tup (pa_cons (pe_lst pa_nil) (pa_cons (pe_tup (pa_cons (pv 4) (pa_cons (pv 5) (pa_cons (pv 6) (pa_cons (pv 7) (pa_cons pe_bl pa_nil)))))) pa_nil))) pe_non)))) pss_nil)
      (pss_cons (ps_set (i := 11) sc_Code_take.nd rfl (.inl rfl) (pe_meth (pv 0) T.C_Code_c T.Code_read_digit_m (ok_Code_read_digit T) (hr.mono (by decide)) T.Code_read_digit_b .nil pass0 (pa_cons (pv 1) (pa_cons (pv 3) pa_nil))))
      (pss_cons (ps_if (PW.pt (pw_or (pt_cmpR op_lt (pv 11) pe_int (nomark _)) (pw_or1 (pt_cmpR op_gt (pv 7) pe_int (nomark _))))) (pss_one (ps_ret pe_non)) pss_nil)
      (pss_cons (ps_aug (i := 4) sc_Code_take.nd rfl (.inl rfl) (pe_slice sl_U (pe_joined1 (pe_fmtB (pv 11) (by decide) (by decide) (fun n hn t u => fmt08b hn t u))) (po_some (pe_op op_sub (pe_glob (by rfl) T.k_BYTE_BITS_g T.k_BYTE_BITS_r) (pe_prop (pv 0) T.C_Code_c T.Code_bits_p (ok_Code_bits T) (hr.mono (by decide)) T.Code_bits_b .nil pass0 rfl))) po_none) ip_addU)
      (pss_cons (ps_set (i := 12) sc_Code_take.nd rfl (.inl rfl) (pe_ifExp (pt_cmpR op_ge (pe_callB c_lenU (by rfl) T.n_len (by decide +kernel) (pa_cons (pv 4) pa_nil)) (pe_glob (by rfl) T.k_BYTE_BITS_g T.k_BYTE_BITS_r) (nomark _)) (pe_lst (pa_cons (pe_callTy call_int_bin (by rfl) T.n_int (by decide +kernel) (pa_cons (pe_slice sl_U (pv 4) po_none (po_some (pe_glob (by rfl) T.k_BYTE_BITS_g T.k_BYTE_BITS_r))) (pa_cons pe_int pa_nil))) pa_nil)) (pe_lst pa_nil)))
      (pss_cons (ps_set (i := 4) sc_Code_take.nd rfl (.inl rfl) (pe_ifExp (pt_cmpR (op_neU hu) (pv 12) (pe_lst pa_nil) (nomark _)) (pe_slice sl_U (pv 4) (po_some (pe_glob (by rfl) T.k_BYTE_BITS_g T.k_BYTE_BITS_r)) po_none) (pv 4)))
      (pss_one (ps_ret (pe_tup (pa_cons (pv 12) (pa_cons (pe_tup (pa_cons (pv 4) (pa_cons (pe_op op_modN (pe_op op_addU (pv 5) pe_int) (pe_prop (pv 0) T.C_Code_c T.Code_group_p (ok_Code_group T) (hr.mono (by decide)) T.Code_group_b .nil pass0 rfl)) (pa_cons (pv 6) (pa_cons pe_int (pa_cons pe_bl pa_nil)))))) pa_nil)))))))))))))))))


end
section
variable {w : World} {K : PySem.W.Frag} {mg : Str → Option Value} {base : Heap}
/-! ### the plain law: reading sign by sign -/
def folC (c : CodeD) (r : RD) : RC → List Nat → Option (List Nat × RC)
  | s, [] => some ([], s)
  | s, ch :: t => (takeC c r s ch).bind fun p => (folC c r p.2 t).map fun q => (p.1 ++ q.1, q.2)
theorem folC_app (c : CodeD) (r : RD) : ∀ (a : List Nat) (s : RC) (b : List Nat), folC c r s (a ++ b) = (folC c r s a).bind fun p => (folC c r p.2 b).map fun q => (p.1 ++ q.1, q.2)
  | [], s, b => by
    show folC c r s b = (folC c r s b).map fun q => ([] ++ q.1, q.2)
    cases folC c r s b <;> rfl
  | ch :: a, s, b => by
    show (takeC c r s ch).bind (fun p => (folC c r p.2 (a ++ b)).map fun q => (p.1 ++ q.1, q.2)) = ((takeC c r s ch).bind fun p => (folC c r p.2 a).map fun q => (p.1 ++ q.1, q.2)).bind _
    cases takeC c r s ch with
    | none => rfl
    | some p =>
      show (folC c r p.2 (a ++ b)).map _ = ((folC c r p.2 a).map _).bind _
      rw [folC_app c r a]
      cases folC c r p.2 a with
      | none => rfl
      | some q =>
        show ((folC c r q.2 b).map _).map _ = (folC c r q.2 b).map _
        cases folC c r q.2 b with
        | none => rfl
        | some z => simp [List.append_assoc]
def opnC : RC := ⟨[], 0, 0, 0, false⟩
def finC (c : CodeD) (r : RD) (l : List Nat) : Option (List Nat) := (folC c r opnC l).bind fun p => if endC c r p.2.b p.2.sn p.2.pn p.2.br = true then some p.1 else none
theorem takeC_len {c : CodeD} {r : RD} {s s' : RC} {ch : Nat} {ds : List Nat} (h : takeC c r s ch = some (ds, s')) : ds.length ≤ 1 := by
  unfold takeC onC at h
  repeat' split at h
  all_goals first | (cases h; done) | (cases h; simp)
theorem folC_len {c : CodeD} {r : RD} : ∀ (a : List Nat) (s s' : RC) (ds : List Nat), folC c r s a = some (ds, s') → ds.length ≤ a.length
  | [], s, s', ds, h => by
    cases h
    exact Nat.le_refl _
  | ch :: a, s, s', ds, h => by
    obtain ⟨⟨d, t⟩, h1, h2⟩ := Option.bind_eq_some_iff.mp (show (takeC c r s ch).bind (fun p => (folC c r p.2 a).map fun q => (p.1 ++ q.1, q.2)) = some (ds, s') from h)
    obtain ⟨⟨d2, t2⟩, h3, h4⟩ := Option.map_eq_some_iff.mp h2
    cases h4
    have l1 : d.length ≤ 1 := takeC_len h1
    have l2 : d2.length ≤ a.length := folC_len a _ _ _ h3
    show (d ++ d2).length ≤ a.length + 1
    rw [List.length_append]
    omega
theorem folC_snoc {c : CodeD} {r : RD} {l : List Nat} {i ch : Nat} {s s1 : RC} {ds : List Nat} (hi : l[i]? = some ch) (h : folC c r s (l.take i) = some (ds, s1)) :
    (takeC c r s1 ch = none → folC c r s l = none) ∧ ∀ d2 s2, takeC c r s1 ch = some (d2, s2) → folC c r s (l.take (i + 1)) = some (ds ++ d2, s2) := by
  constructor
  · intro h2
    have e : l = l.take i ++ ch :: l.drop (i + 1) := by
      obtain ⟨hl, he⟩ := List.getElem?_eq_some_iff.mp hi
      rw [← he, ← List.drop_eq_getElem_cons hl, List.take_append_drop]
    rw [e, folC_app, h]
    show ((takeC c r s1 ch).bind _).map _ = none
    rw [h2]
    rfl
  · intro d2 s2 h2
    rw [List.take_add_one, hi, folC_app, h]
    show ((takeC c r s1 ch).bind fun p => (folC c r p.2 []).map fun q => (p.1 ++ q.1, q.2)).map (fun q => (ds ++ q.1, q.2)) = _
    rw [h2]
    show some (ds ++ (d2 ++ []), s2) = _
    rw [List.append_nil]
theorem FitC.opn {c : CodeD} (ok : c.Ok) : FitC c opnC := ⟨fun x hx => (nomatch hx), by show 0 < 8; decide, grp_pos ok.b1 ok.b6⟩

end
section
variable {w : World} {K : PySem.W.Frag} {mg : Str → Option Value} {base : Heap}
local macro_rules | `(tactic| walk_at "hc") => `(tactic| first
  | assumption
  | ((refine CodeAt.same (H := ?xH) ?xb ?xa); (case xa => assumption); (case xb => walk_at "hc")))
local macro_rules | `(tactic| walk_at "rd0") => `(tactic| first
  | ((with_reducible refine r_get (a := ?xa) (c := ?xc) ?x1 ?x2 ?_); (case x1 => rfl); (case x2 => walk_at "hc"))
  | ((with_reducible refine r_methC (a := ?xa) (c := ?xc) ?x1 ?x2 ?x3 ?_); (case x1 => rfl); (case x2 => walk_at "hc"); (case x3 => (intro _ _ _; rfl)))
  | (with_reducible refine r_fmtB ?_)
  | (with_reducible refine r_dget ?_)
  | (with_reducible refine r_m0 ?_)
  | (with_reducible refine r_makeK ?_)
  | (with_reducible refine r_cval ?_)
  | (with_reducible refine r_sfld ?_)
  | (with_reducible refine r_isiI ?_)
  | (with_reducible refine r_isiIB ?_)
  | (with_reducible refine r_isiS ?_)
  | (with_reducible refine r_inID ?_))

local macro_rules | `(tactic| walk_at "hcr") => `(tactic| first
  | assumption
  | ((refine RulesAt.same (H := ?xH) ?xb ?xa); (case xa => assumption); (case xb => walk_at "hcr")))
local macro_rules | `(tactic| walk_at "rd0") => `(tactic| first
  | ((with_reducible refine r_getR (a := ?xa) (r := ?xr) ?x1 ?x2 ?_); (case x1 => rfl); (case x2 => walk_at "hcr")))

theorem r_isNNr {a : Addr} {H : Hp} {Q : VK} (h : Q (.bl false) H) : rIsNN (.ref a) .non H Q := ⟨rfl, h⟩
theorem r_isNNn {H : Hp} {Q : VK} (h : Q (.bl true) H) : rIsNN .non .non H Q := ⟨rfl, h⟩
/-! ### texts looked at, texts read -/
theorem r_mkN {C : Addr} {fls : List Str} {ta : TA} {σ : S} {H : Hp} {E : XK} (h : ta σ H fun vs H1 => vs.length = fls.length ∧ (fls = [] → E (.ref C) none H1) ∧ (fls ≠ [] → ∀ d, H1 d = none → E (.ref C) (some d) (upd H1 d (.xd (zipX [] fls vs))))) : tMkN C fls ta σ H E := h
def NoCh (T : Txt K mg) (E : XK) (H : Hp) (i : Int) : Prop := ∀ d H', Same H H' → H' d = some (.xd [("index", .int i)]) → E (.ref T.X_NoCharacter) (some d) H'
theorem NoCh.same {T : Txt K mg} {E : XK} {H H' : Hp} {i : Int} (h : NoCh T E H i) (s : Same H H') : NoCh T E H' i := fun d G t e => h d G (s.trans t) e
def FirstBad (l : List Nat) (i : Nat) : Prop := ∃ ch, l[i]? = some ch ∧ ¬ Ch ch ∧ ∀ (j x : Nat), j < i → l[j]? = some x → Ch x
/-- a value that is no text, and the index that is told of it -/
def Odd (H : Hp) (v : V) (i : Int) : Prop := (∃ l, ∃ k : Nat, v = .str (tx l) ∧ l.length ≤ 12000 ∧ FirstBad l k ∧ i = k) ∨ (∃ l, v = .str (tx l) ∧ 12000 < l.length ∧ l.length ≤ 90000 ∧ i = -1) ∨ ∃ t, Kd H v t ∧ t ≠ "str" ∧ i = -1
theorem Odd.same {H H' : Hp} {v : V} {i : Int} (h : Odd H v i) (s : Same H H') : Odd H' v i := by
  rcases h with h | h | ⟨t, k, n, e⟩
  · exact .inl h
  · exact .inr (.inl h)
  · exact .inr (.inr ⟨t, k.same s, n, e⟩)
def sp_check_text (T : Txt K mg) : Sp := fun vs H Q E => ∃ v, vs = [v] ∧ ((∃ l, v = .str (tx l) ∧ l.length ≤ 12000 ∧ (∀ c ∈ l, Ch c) ∧ ∀ H', Same H H' → Q .non H') ∨ ∃ i, Odd H v i ∧ NoCh T E H i)
theorem len_check_text (T : Txt K mg) (vs : List V) (H : Hp) (Q : VK) (E : XK) (h : sp_check_text T vs H Q E) : vs.length = 1 := by
  obtain ⟨_, rfl, _⟩ := h
  rfl
def t_check_text (T : Txt K mg) (E : XK) : TS := (tSeq (tIfS (tOr (tNot (tB (tCB (rIsi K) (tCons (tVar 0) (tCons (tC (.ty "str")) tNil))))) (tTest (tOp rGtI (tCB (rLenU K) (tCons (tVar 0) tNil)) (tC (.int 12000))))) (tRaiseE E (tMkN T.X_NoCharacter ["index"] (tCons (tUn rNegI (tC (.int 1))) tNil))) tNext)
    (tFor (iEnumA K (tCons (tVar 0) tNil)) (gTup K 2 (gCons (gName 1) (gCons (gName 2) gNil))) (tIfS (tTest (tOp (rNinU K) (tVar 2) (tC (.str (Str.ofString "\n !\"#$&'()*+,-./0123456789:;<=>?@ABCDEFGHIJKLMNOPQRSTUVWXYZ[\\]^_`abcdefghijklmnopqrstuvwxyz{|}~"))))) (tRaiseE E (tMkN T.X_NoCharacter ["index"] (tCons (tVar 1) tNil))) tNext)))

theorem pure_check_text (T : Txt K mg) (vs : List V) (H : Hp) (Q : VK) (E : XK) (h : sp_check_text T vs H Q E) : t_check_text T E { nx := fun _ H' => Q .non H', rt := Q } (start ["value", "index", "character"] vs) H := by
  obtain ⟨v, rfl, h⟩ := h
  unfold t_check_text
  have scan : ∀ (l : List Nat) (hl : l.length ≤ 12000) (q : (∀ i ch, l[i]? = some ch → ¬ Ch ch → (∀ (j x : Nat), j < i → l[j]? = some x → Ch x) → NoCh T E H i)) (q2 : (∀ c ∈ l, Ch c) → ∀ H', Same H H' → Q .non H'),
      tSeq (tIfS (tOr (tNot (tB (tCB (rIsi K) (tCons (tVar 0) (tCons (tC (.ty "str")) tNil))))) (tTest (tOp rGtI (tCB (rLenU K) (tCons (tVar 0) tNil)) (tC (.int 12000))))) (tRaiseE E (tMkN T.X_NoCharacter ["index"] (tCons (tUn rNegI (tC (.int 1))) tNil))) tNext)
    (tFor (iEnumA K (tCons (tVar 0) tNil)) (gTup K 2 (gCons (gName 1) (gCons (gName 2) gNil))) (tIfS (tTest (tOp (rNinU K) (tVar 2) (tC (.str (Str.ofString "\n !\"#$&'()*+,-./0123456789:;<=>?@ABCDEFGHIJKLMNOPQRSTUVWXYZ[\\]^_`abcdefghijklmnopqrstuvwxyz{|}~"))))) (tRaiseE E (tMkN T.X_NoCharacter ["index"] (tCons (tVar 1) tNil))) tNext)) { nx := fun _ H' => Q .non H', rt := Q } [some (.str (tx l)), none, none] H := by
    intro l hl q q2
    walk_at "rd"
    refine r_lenUS (smallS (by rw [tx_len]; omega)) ?_
    walk_at "rd"
    rw [tx_len]
    refine r_iteD (fun h => absurd h (by omega)) (fun _ => ?_)
    walk_at "rd"
    refine r_enumAS ?_
    walk_at "rd"
    refine ⟨tx l, rfl, ?_⟩
    refine f_it walk_pairs (fun i σ G => ∃ v1 v2, σ = [some (.str (tx l)), v1, v2] ∧ Same H G ∧ ∀ (j x : Nat), j < i → l[j]? = some x → Ch x) ⟨none, none, rfl, Same.refl H, fun j x z => absurd z (Nat.not_lt_zero _)⟩ (fun _ _ _ _ _ => trivial) ?_ ?_
    · rintro i x σ G G' hi ⟨v1, v2, rfl, sG, hall⟩ ⟨Tp, u, w, rfl, nT, hG', ea, eb⟩
      have hsT := same_of hG'.symm nT
      have hvT := at_of hG'.symm
      clear hG'
      cases ea
      unfold sgn at eb
      obtain ⟨ch, hch, rfl⟩ := Option.map_eq_some_iff.mp eb
      have hli : l[i]? = some ch := by
        have e : (tx l).cps[i]? = l[i]? := by simp [tx]
        rw [← e]
        exact hch
      walk_at "rd"
      refine r_notInS ?_
      rw [chars_eq]
      by_cases hm : Ch ch
      · rw [decide_eq_true (ch_mem.mp hm)]
        walk_at "rd"
        refine ⟨_, _, rfl, sG.trans hsT, fun j y hj hy => ?_⟩
        by_cases e : j = i
        · subst e
          rw [hli] at hy
          cases hy
          exact hm
        · exact hall j y (by omega) hy
      · rw [decide_eq_false (fun z => hm (ch_mem.mpr z))]
        walk_at "rd"
        refine r_raise (r_mkN (r_cons ?_))
        walk_at "rd"
        refine ⟨rfl, fun z => (nomatch z), fun _ d nd => ?_⟩
        exact q i ch hli hm hall d _ ((sG.trans hsT).trans (same_new nd)) upd_same
    · rintro σ G ⟨v1, v2, rfl, sG, hall⟩
      walk_at "rd"
      refine q2 (fun c hc => ?_) G sG
      obtain ⟨j, hj⟩ := List.getElem?_of_mem hc
      have hjl : j < l.length := (List.getElem?_eq_some_iff.mp hj).1
      exact hall j c (by rw [show (tx l).cps.size = l.length by simp [tx]]; exact hjl) hj
  rcases h with ⟨l, rfl, hl, hc, q⟩ | ⟨i, h, q⟩
  · exact scan l hl (fun i ch hi hn _ => absurd (hc ch (List.mem_of_getElem? hi)) hn) fun _ => q
  · rcases h with ⟨l, k, rfl, hl, ⟨ch, h1, h2, h3⟩, rfl⟩ | ⟨l, rfl, hl, hl2, rfl⟩ | ⟨t, kd, nt, rfl⟩
    · refine scan l hl (fun i ch' hi hn hall => ?_) fun hc => absurd (hc ch (List.mem_of_getElem? h1)) h2
      have e : i = k := by
        rcases Nat.lt_trichotomy i k with z | z | z
        · exact absurd (h3 i ch' z hi) hn
        · exact z
        · exact absurd (hall k ch z h1) h2
      rw [e]
      exact q
    · walk_at "rd"
      refine r_lenUS (smallS (by rw [tx_len]; omega)) ?_
      walk_at "rd"
      rw [tx_len]
      refine r_iteD (fun _ => ?_) (fun h => absurd (by omega) h)
      walk_at "rd"
      refine r_raise (r_mkN (r_cons ?_))
      walk_at "rd"
      refine r_negI ?_
      walk_at "rd"
      refine ⟨rfl, fun z => (nomatch z), fun _ d nd => ?_⟩
      exact q d _ (same_new nd) upd_same
    · walk_at "rd"
      refine r_isiStr kd ?_
      rw [decide_eq_false nt]
      walk_at "rd"
      refine r_raise (r_mkN (r_cons ?_))
      walk_at "rd"
      refine r_negI ?_
      walk_at "rd"
      refine ⟨rfl, fun z => (nomatch z), fun _ d nd => ?_⟩
      exact q d _ (same_new nd) upd_same
theorem ok_check_text (T : Txt K mg) : FnOk P w K mg base (L2.CX P w) 2 T.check_text_a T.check_text_d ["value"] (sp_check_text T) := by
  refine T.check_text_f.ok sc_check_text (fun vs H Q E h => len_check_text T vs H Q E h) (fun cdv A outer s H vs Q E hr h => ⟨t_check_text T E, ?_, pure_check_text T vs H Q E h⟩)
  have hu := hu64 hr
  exact (pss_cons (ps_if (PW.pt (pw_or (pt_not (pt_val (pe_callB call_isi (by rfl) T.n_isinstance (by decide +kernel) (pa_cons (pv 0) (pa_cons (pe_bltn (v := .ty "str") (by rfl) T.n_str (by decide +kernel) rfl) pa_nil))))) (pw_or1 (pt_cmpR op_gt (pe_callB c_lenU (by rfl) T.n_len (by decide +kernel) (pa_cons (pv 0) pa_nil)) (pe_glob (by rfl) T.k_MOST_CHARACTERS_g T.k_MOST_CHARACTERS_r) (nomark _))))) (pss_one (ps_raise rfl (takes_of rfl rfl rfl rfl) (pmk_errN (k := 0) (fls := ["index"]) PySem.PxE.bas_ValueError T.X_NoCharacter_F.oex T.X_NoCharacter_F.iC T.X_NoCharacter_F.tI (xi_NoCharacter T w) (hr.mono (by decide)) (by rfl) T.X_NoCharacter_g (pa_cons (pe_un un_neg pe_int) pa_nil) (by decide)))) pss_nil)
      (pss_one (ps_for (passes_of rfl) rfl (pi_enumA (by rfl) T.n_enumerate (pa_cons (pv 0) pa_nil)) (pg_tup (by rfl) (pgs_cons (pg_name (i := 1) sc_check_text.nd rfl (.inl rfl)) (pgs_cons (pg_name (i := 2) sc_check_text.nd rfl (.inl rfl)) pgs_nil))) (pss_one (ps_if (pt_cmpR op_ninU (pv 2) (pe_glob (by rfl) T.k_CHARACTERS_g T.k_CHARACTERS_r) (by rfl)) (pss_one (ps_raise rfl (takes_of rfl rfl rfl rfl) (pmk_errN (k := 0) (fls := ["index"]) PySem.PxE.bas_ValueError T.X_NoCharacter_F.oex T.X_NoCharacter_F.iC T.X_NoCharacter_F.tI (xi_NoCharacter T w) (hr.mono (by decide)) (by rfl) T.X_NoCharacter_g (pa_cons (pv 1) pa_nil) (by decide)))) pss_nil)))))

def sp_rules_for (T : Txt K mg) : Sp := fun vs H Q _ => ∃ a rr c r, vs = [.ref a, .ref rr] ∧ CodeAt T H a c ∧ RulesAt T H rr r ∧ suitC c r = true ∧ ∀ H', Same H H' → Q (.ref rr) H'
theorem len_rules_for (T : Txt K mg) (vs : List V) (H : Hp) (Q : VK) (E : XK) (h : sp_rules_for T vs H Q E) : vs.length = 2 := by
  obtain ⟨_, _, _, _, rfl, _⟩ := h
  rfl
def t_rules_for (T : Txt K mg) : TS := (tSeq (tAsg (tIf (tTest (tOp rIsNN (tVar 1) (tC .non))) (tMeth T.C_Code "usual" (sp_Machine_usual T) [] E0 (tVar 0) tNil) (tVar 1)) (gName 2))
    (tSeq (tIfS (tNot (tB (tMeth T.C_Rules "suit" (sp_Rules_suit T) [] E0 (tVar 2) (tCons (tVar 0) tNil)))) tNever tNext)
    (tRet (tVar 2))))

theorem pure_rules_for (T : Txt K mg) (vs : List V) (H : Hp) (Q : VK) (E : XK) (h : sp_rules_for T vs H Q E) : t_rules_for T { nx := fun _ H' => Q .non H', rt := Q } (start ["code", "rules", "found"] vs) H := by
  obtain ⟨a, rr, c, r, rfl, hc, hr, hsu, q⟩ := h
  obtain ⟨o, dx, D, h1, h2⟩ := id hr
  unfold t_rules_for
  walk_at "rd"
  refine r_isNNr ?_
  walk_at "rd"
  refine r_methI rfl h1 rfl ?_
  walk_at "rd"
  refine ⟨rr, a, r, c, rfl, hc, hr, fun H1 s1 => ?_⟩
  rw [hsu]
  walk_at "rd"
  exact q H1 s1
theorem ok_rules_for (T : Txt K mg) : FnOk P w K mg base CX0 6 T.rules_for_a T.rules_for_d ["code", "rules"] (sp_rules_for T) := by
  refine T.rules_for_f.ok sc_rules_for (fun vs H Q E h => len_rules_for T vs H Q E h) (fun cdv A outer s H vs Q E hr h => ⟨t_rules_for T, PSs.nox ?_, pure_rules_for T vs H Q E h⟩)
  have hu := hu64 hr
  exact (pss_cons (ps_set (i := 2) sc_rules_for.nd rfl (.inl rfl) (pe_ifExp (pt_cmpR op_isN (pv 1) pe_non (nomark _)) (pe_meth0 (pv 0) T.C_Code_c T.Machine_usual_m (ok_Machine_usual T) (hr.mono (by decide)) T.Machine_usual_b .nil pass0) (pv 1)))
      (pss_cons (ps_if (pt_not (pt_val (pe_meth (pv 2) T.C_Rules_c T.Rules_suit_m (ok_Rules_suit T) (hr.mono (by decide)) T.Rules_suit_b .nil pass0 (pa_cons (pv 0) pa_nil)))) (pss_one ps_never) pss_nil)
      (pss_one (ps_ret (pv 2)))))

def sp_Machine_whole_data (T : Txt K mg) : Sp := fun vs H Q _ => ∃ a rr c r l, vs = [.ref a, .ref rr, .str (tx l)] ∧ CodeAt T H a c ∧ RulesAt T H rr r ∧ l.length ≤ 12000 ∧
  (finC c r l = none → ∀ H', Same H H' → Q .non H') ∧ ∀ ds, finC c r l = some ds → ∀ D H', Same H H' → H D = none → H' D = some (.lst (ds.map nv)) → Q (.ref D) H'
theorem len_Machine_whole_data (T : Txt K mg) (vs : List V) (H : Hp) (Q : VK) (E : XK) (h : sp_Machine_whole_data T vs H Q E) : vs.length = 3 := by
  obtain ⟨_, _, _, _, _, rfl, _⟩ := h
  rfl
def t_Machine_whole_data (T : Txt K mg) : TS := (tSeq (tPar 3 4 (tCons (tLst tNil) (tCons (tMeth T.C_Code "opening" (sp_Code_opening T) [] E0 (tVar 0) tNil) tNil)))
    (tSeq (tFor (iSeqU K (tVar 2)) (gName 5) (tSeq (tAsg (tMeth T.C_Code "take" (sp_Code_take T) [] E0 (tVar 0) (tCons (tVar 1) (tCons (tVar 4) (tCons (tVar 5) tNil)))) (gName 6))
    (tSeq (tIfS (tTest (tOp rIsNN (tVar 6) (tC .non))) (tRet (tC .non)) tNext)
    (tSeq (tAsg (tVar 6) (gTup K 2 (gCons (gName 7) (gCons (gName 4) gNil))))
    (tAug 3 (tVar 7) rExt2)))))
    (tRet (tIf (tB (tMeth T.C_Code "may_end" (sp_Code_may_end T) [] E0 (tVar 0) (tCons (tVar 1) (tCons (tVar 4) tNil)))) (tVar 3) (tC .non)))))

theorem pure_Machine_whole_data (T : Txt K mg) (vs : List V) (H : Hp) (Q : VK) (E : XK) (h : sp_Machine_whole_data T vs H Q E) : t_Machine_whole_data T { nx := fun _ H' => Q .non H', rt := Q } (start ["self", "rules", "text", "data", "state", "character", "found", "more"] vs) H := by
  obtain ⟨a, rr, c, r, l, rfl, hc, hr, hl, qn, qs⟩ := h
  have ok := hc.1
  unfold t_Machine_whole_data
  walk_at "rd"
  refine And.intro (Nat.zero_le _) fun D nD => ?_
  generalize hg : upd H D _ = H1
  have s1 := same_of hg nD
  have v1 := at_of hg
  clear hg
  walk_at "rd"
  refine ⟨a, c, rfl, hc.same s1, fun st H2 s2 nst hst => ?_⟩
  have v2 := s2 _ _ v1
  walk_at "rd"
  refine r_iseqS ?_
  walk_at "rd"
  refine ⟨tx l, rfl, ?_⟩
  refine f_it walk_str (fun i σ G => ∃ v5 v6 v7 st ds s, σ = [some (.ref a), some (.ref rr), some (.str (tx l)), some (.ref D), some (.ref st), v5, v6, v7] ∧ Same H G ∧ G D = some (.lst (ds.map nv)) ∧ RStAt G st s.b s.sn s.col s.pn s.br ∧ FitC c s ∧ folC c r opnC (l.take i) = some (ds, s))
    ⟨none, none, none, st, [], opnC, rfl, s1.trans s2, v2, hst, FitC.opn ok, rfl⟩ (fun _ _ _ _ _ => trivial) ?_ ?_
  · rintro i x σ G G' hi ⟨v5, v6, v7, st, ds, s, rfl, sG, hD, hS, F, hfo⟩ ⟨rfl, ch, hch, rfl⟩
    have hli : l[i]? = some ch := by
      rw [← Array.getElem?_toList] at hch
      rwa [tx_list] at hch
    have sn := folC_snoc hli hfo
    have hrG := hr.same sG
    walk_at "rd"
    refine ⟨a, rr, c, r, st, s, ch, rfl, hc.same sG, hrG, hS, F, fun en G2 s2 => ?_, fun d2 t2 es p L st2 G2 s2 np nL hor hp hL hst2 => ?_⟩
    · walk_at "rd"
      refine r_isNNn ?_
      walk_at "rd"
      refine qn ?_ G2 (sG.trans s2)
      unfold finC
      rw [sn.1 en]
      rfl
    · have e2 := sn.2 _ _ es
      walk_at "rd"
      refine r_isNNr ?_
      walk_at "rd"
      have hD2 := s2 _ _ hD
      have ll := folC_len _ _ _ _ e2
      rw [List.length_append] at ll
      have lt2 : (l.take (i + 1)).length ≤ l.length := by rw [List.length_take]; omega
      refine r_ext hD2 hL (by rw [List.length_map, List.length_map]; exact smallS (by omega)) ?_
      rw [← List.map_append]
      have nst : st2 ≠ D := by
        unfold RStAt at hst2
        exact fun z => by rw [z, hD2] at hst2; cases hst2
      refine ⟨_, _, _, st2, ds ++ d2, t2, rfl, same_mut (sG.trans s2) nD, upd_same, ?_, FitC.take ok F es, e2⟩
      unfold RStAt
      rw [upd_ne nst]
      exact hst2
  · rintro σ G ⟨v5, v6, v7, st, ds, s, rfl, sG, hD, hS, F, hfo⟩
    rw [show (tx l).cps.size = l.length by simp [tx], List.take_length] at hfo
    walk_at "rd"
    refine ⟨a, rr, c, r, st, s.b, s.sn, s.col, s.pn, s.br, rfl, hc.same sG, hr.same sG, hS, by have := F.len; omega, F.sn, fun H5 s5 => ?_⟩
    by_cases h : endC c r s.b s.sn s.pn s.br = true
    · rw [h]
      walk_at "rd"
      refine qs ds ?_ D H5 (sG.trans s5) nD (s5 _ _ hD)
      unfold finC
      rw [hfo]
      exact if_pos h
    · rw [show endC c r s.b s.sn s.pn s.br = false by simpa using h]
      walk_at "rd"
      refine qn ?_ H5 (sG.trans s5)
      unfold finC
      rw [hfo]
      exact if_neg h
theorem ok_Machine_whole_data (T : Txt K mg) : FnOk P w K mg base CX0 6 T.Machine_whole_data_a T.Machine_whole_data_d ["self", "rules", "text"] (sp_Machine_whole_data T) := by
  refine T.Machine_whole_data_f.ok sc_Machine_whole_data (fun vs H Q E h => len_Machine_whole_data T vs H Q E h) (fun cdv A outer s H vs Q E hr h => ⟨t_Machine_whole_data T, PSs.nox ?_, pure_Machine_whole_data T vs H Q E h⟩)
  have hu := hu64 hr
  exact (pss_cons (ps_par (i := 3) (j := 4) (by rfl) sc_Machine_whole_data.nd rfl rfl (by decide) rfl rfl (pa_cons (pe_lst pa_nil) (pa_cons (pe_meth0 (pv 0) T.C_Code_c T.Code_opening_m (ok_Code_opening T) (hr.mono (by decide)) T.Code_opening_b .nil pass0) pa_nil)) (by rfl))
      (pss_cons (ps_for PassesOwn.never rfl (pi_seqU (pv 2)) (pg_name (i := 5) sc_Machine_whole_data.nd rfl (.inl rfl)) (pss_cons (ps_set (i := 6) sc_Machine_whole_data.nd rfl (.inl rfl) (pe_meth (pv 0) T.C_Code_c T.Code_take_m (ok_Code_take T) (hr.mono (by decide)) T.Code_take_b .nil pass0 (pa_cons (pv 1) (pa_cons (pv 4) (pa_cons (pv 5) pa_nil)))))
      (pss_cons (ps_if (pt_cmpR op_isN (pv 6) pe_non (nomark _)) (pss_one (ps_ret pe_non)) pss_nil)
      (pss_cons (ps_asg (pv 6) (pg_tup (by rfl) (pgs_cons (pg_name (i := 7) sc_Machine_whole_data.nd rfl (.inl rfl)) (pgs_cons (pg_name (i := 4) sc_Machine_whole_data.nd rfl (.inl rfl)) pgs_nil))))
      (pss_one (ps_aug (i := 3) sc_Machine_whole_data.nd rfl (.inl rfl) (pv 7) ip_ext))))))
      (pss_one (ps_ret (pe_ifExp (pt_val (pe_meth (pv 0) T.C_Code_c T.Code_may_end_m (ok_Code_may_end T) (hr.mono (by decide)) T.Code_may_end_b .nil pass0 (pa_cons (pv 1) (pa_cons (pv 4) pa_nil)))) (pv 3) pe_non)))))

def sp_is_right (T : Txt K mg) : Sp := fun vs H Q _ => ∃ a v rr c r, vs = [.ref a, v, .ref rr] ∧ CodeAt T H a c ∧ RulesAt T H rr r ∧ suitC c r = true ∧
  ((∃ l, v = .str (tx l) ∧ l.length ≤ 12000 ∧ (∀ c ∈ l, Ch c) ∧ ∀ H', Same H H' → Q (.bl (finC c r l).isSome) H') ∨ ∃ i, Odd H v i ∧ ∀ H', Same H H' → Q (.bl false) H')
theorem len_is_right (T : Txt K mg) (vs : List V) (H : Hp) (Q : VK) (E : XK) (h : sp_is_right T vs H Q E) : vs.length = 3 := by
  obtain ⟨_, _, _, _, _, rfl, _⟩ := h
  rfl
theorem r_notNNr {a : Addr} {H : Hp} {Q : VK} (h : Q (.bl true) H) : rNotNN (.ref a) .non H Q := ⟨rfl, h⟩
theorem r_notNNn {H : Hp} {Q : VK} (h : Q (.bl false) H) : rNotNN .non .non H Q := ⟨rfl, h⟩
def t_is_right (T : Txt K mg) : TS := (tSeq (tAsg (tCall (sp_rules_for T) [] E0 (tCons (tVar 0) (tCons (tVar 2) tNil))) (gName 3))
    (tSeq (tTryOnly K (.ref T.X_NoCharacter) (fun a cls d => (tRet (tC (.bl false)))) (fun _ _ _ _ => False) (fun W => (tDrop (tCallS (sp_check_text T) (WE W) (tCons (tVar 1) tNil)))))
    (tRet (tOp rNotNN (tMeth T.C_Code "whole_data" (sp_Machine_whole_data T) [] E0 (tVar 0) (tCons (tVar 3) (tCons (tVar 1) tNil))) (tC .non)))))

theorem pure_is_right (T : Txt K mg) (vs : List V) (H : Hp) (Q : VK) (E : XK) (h : sp_is_right T vs H Q E) : t_is_right T { nx := fun _ H' => Q .non H', rt := Q } (start ["code", "text", "rules", "own"] vs) H := by
  obtain ⟨a, v, rr, c, r, rfl, hc, hr, hsu, h⟩ := h
  unfold t_is_right
  walk_at "rd"
  refine ⟨a, rr, c, r, rfl, hc, hr, hsu, fun H1 s1 => ?_⟩
  walk_at "rd"
  refine r_tryOnly ?_
  walk_at "rd"
  refine r_callS ?_
  walk_at "rd"
  refine ⟨v, rfl, ?_⟩
  rcases h with ⟨l, rfl, hl, hch, q⟩ | ⟨i, odd, q⟩
  rotate_left
  · refine .inr ⟨i, odd.same s1, fun d H2 s2 hd => ?_⟩
    refine ⟨true, T.X_NoCharacter_F.te, fun _ e ne => ?_, fun z => nomatch z⟩
    refine r_ret ?_
    exact q H2 (s1.trans s2)
  refine .inl ⟨l, rfl, hl, hch, fun H2 s2 => ?_⟩
  have s12 := s1.trans s2
  walk_at "rd"
  refine ⟨a, rr, c, r, l, rfl, hc.same s12, hr.same s12, hl, fun en H3 s3 => ?_, fun ds es D H3 s3 nD hD => ?_⟩
  · rw [en] at q
    walk_at "rd"
    exact r_notNNn (q H3 (s12.trans s3))
  · rw [es] at q
    walk_at "rd"
    exact r_notNNr (q H3 (s12.trans s3))
theorem ok_is_right (T : Txt K mg) : FnOk P w K mg base CX0 7 T.is_right_a T.is_right_d ["code", "text", "rules"] (sp_is_right T) := by
  refine T.is_right_f.ok sc_is_right (fun vs H Q E h => len_is_right T vs H Q E h) (fun cdv A outer s H vs Q E hr h => ⟨t_is_right T, PSs.nox ?_, pure_is_right T vs H Q E h⟩)
  have hu := hu64 hr
  exact (pss_cons (ps_set (i := 3) sc_is_right.nd rfl (.inl rfl) (pe_call (ok_rules_for T) (hr.mono (by decide)) (by rfl) T.rules_for_g T.rules_for_f.kp T.rules_for_b .nil pass0 (pa_cons (pv 0) (pa_cons (pv 2) pa_nil))))
      (pss_cons (ps_try_only (tb := fun W => (tDrop (tCallS (sp_check_text T) (WE W) (tCons (tVar 1) tNil)))) (ts := fun a cls d => (tRet (tC (.bl false)))) (Wout := (fun _ _ _ _ => False)) rfl rfl ⟨by rfl, by decide, Or.inl T.X_NoCharacter_g⟩ takes0 (fun W pn xe tk po => (pss_one (ps_expr (pe_callS (ok_check_text T) (hr.mono (by decide)) (by rfl) T.check_text_g T.check_text_f.kp T.check_text_b (fun σ => passAt tk σ) (pa_cons (pv 1) pa_nil))))) (fun a oe cls d pn hz hf => (pss_one (ps_ret pe_bl))))
      (pss_one (ps_ret (pe_cmpR op_notN (pe_meth (pv 0) T.C_Code_c T.Machine_whole_data_m (ok_Machine_whole_data T) (hr.mono (by decide)) T.Machine_whole_data_b .nil pass0 (pa_cons (pv 3) (pa_cons (pv 1) pa_nil))) pe_non (nomark _))))))


end
section
variable {w : World} {K : PySem.W.Frag} {mg : Str → Option Value} {base : Heap}
local macro_rules | `(tactic| walk_at "hc") => `(tactic| first
  | assumption
  | ((refine CodeAt.same (H := ?xH) ?xb ?xa); (case xa => assumption); (case xb => walk_at "hc")))
local macro_rules | `(tactic| walk_at "rd0") => `(tactic| first
  | ((with_reducible refine r_get (a := ?xa) (c := ?xc) ?x1 ?x2 ?_); (case x1 => rfl); (case x2 => walk_at "hc"))
  | ((with_reducible refine r_methC (a := ?xa) (c := ?xc) ?x1 ?x2 ?x3 ?_); (case x1 => rfl); (case x2 => walk_at "hc"); (case x3 => (intro _ _ _; rfl)))
  | (with_reducible refine r_fmtB ?_)
  | (with_reducible refine r_dget ?_)
  | (with_reducible refine r_m0 ?_)
  | (with_reducible refine r_makeK ?_)
  | (with_reducible refine r_cval ?_)
  | (with_reducible refine r_sfld ?_)
  | (with_reducible refine r_isiI ?_)
  | (with_reducible refine r_isiIB ?_)
  | (with_reducible refine r_isiS ?_)
  | (with_reducible refine r_inID ?_))

local macro_rules | `(tactic| walk_at "hcr") => `(tactic| first
  | assumption
  | ((refine RulesAt.same (H := ?xH) ?xb ?xa); (case xa => assumption); (case xb => walk_at "hcr")))
local macro_rules | `(tactic| walk_at "rd0") => `(tactic| first
  | ((with_reducible refine r_getR (a := ?xa) (r := ?xr) ?x1 ?x2 ?_); (case x1 => rfl); (case x2 => walk_at "hcr")))

/-! ### what the law draws -/
def alls : List Nat := List.range' 33 4 ++ List.range' 38 89
def sp_l_all_signs (T : Txt K mg) : Sp := fun vs H Q _ => vs = [] ∧ Q (.str (tx alls)) H
theorem len_l_all_signs (T : Txt K mg) (vs : List V) (H : Hp) (Q : VK) (E : XK) (h : sp_l_all_signs T vs H Q E) : vs.length = 0 := by
  obtain ⟨rfl, _⟩ := h
  rfl
theorem alls_eq : Str.ofString "!\"#$&'()*+,-./0123456789:;<=>?@" ++ Str.ofString "ABCDEFGHIJKLMNOPQRSTUVWXYZ" ++ Str.ofString "[\\]^_`" ++ Txt.lower (Str.ofString "ABCDEFGHIJKLMNOPQRSTUVWXYZ") ++ Str.ofString "{|}~" = tx alls := by decide +kernel
def t_l_all_signs (T : Txt K mg) : TS := (tSeq (tAsg (tC (.str (Str.ofString "ABCDEFGHIJKLMNOPQRSTUVWXYZ"))) (gName 0))
    (tRet (tOp (rAddU K) (tOp (rAddU K) (tOp (rAddU K) (tOp (rAddU K) (tC (.str (Str.ofString "!\"#$&'()*+,-./0123456789:;<=>?@"))) (tVar 0)) (tC (.str (Str.ofString "[\\]^_`")))) (tM0 rLower (tVar 0))) (tC (.str (Str.ofString "{|}~"))))))

theorem pure_l_all_signs (T : Txt K mg) (vs : List V) (H : Hp) (Q : VK) (E : XK) (h : sp_l_all_signs T vs H Q E) : t_l_all_signs T { nx := fun _ H' => Q .non H', rt := Q } (start ["_law_capitals"] vs) H := by
  obtain ⟨rfl, q⟩ := h
  unfold t_l_all_signs
  walk_at "rd"
  refine r_addUS (by decide +kernel) ?_
  walk_at "rd"
  refine r_addUS (by decide +kernel) ?_
  walk_at "rd"
  refine ⟨⟨_, rfl⟩, _, rfl, rfl, by decide +kernel, ?_⟩
  refine r_addUS (by decide +kernel) ?_
  walk_at "rd"
  refine r_addUS (by decide +kernel) ?_
  rw [alls_eq]
  exact q
theorem ok_l_all_signs (T : Txt K mg) : FnOk P w K mg base CX0 1 T.l_all_signs_a T.l_all_signs_d [] (sp_l_all_signs T) := by
  refine T.l_all_signs_f.ok sc_l_all_signs (fun vs H Q E h => len_l_all_signs T vs H Q E h) (fun cdv A outer s H vs Q E hr h => ⟨t_l_all_signs T, PSs.nox ?_, pure_l_all_signs T vs H Q E h⟩)
  have hu := hu64 hr
  exact (pss_cons (ps_set (i := 0) sc_l_all_signs.nd rfl (.inl rfl) pe_str)
      (pss_one (ps_ret (pe_op op_addU (pe_op op_addU (pe_op op_addU (pe_op op_addU pe_str (pv 0)) pe_str) (pe_lower (pv 0))) pe_str))))

/-- the code that is drawn: signs, pad -/
structure Drawn (z p : Str) : Prop where
  ex : ∃ n, 1 ≤ n ∧ n ≤ 6 ∧ z.length = 2 ^ n
  sz : Sgs z
  sp : Sgs p
  nd : z.cps.toList.Nodup
  pl : p.length ≤ 1
  dj : ∀ x ∈ p.cps.toList, x ∉ z.cps.toList
theorem cutV_take {l : List V} {k : Nat} (h : k ≤ l.length) : cutV l none (some (k : Int)) = l.take k := by
  unfold cutV
  rw [HT.sIx_none, sIx_le_nat rfl h]
  rfl
def dch (f pc k : Nat) : Nat := alls.getD ((f + pc * k) % 93) 0
def drow (f pc k : Nat) : List Nat := (List.range k).map (dch f pc)
theorem drow_len (f pc k : Nat) : (drow f pc k).length = k := by simp [drow]
theorem drow_succ (f pc k : Nat) : drow f pc (k + 1) = drow f pc k ++ [dch f pc k] := by simp [drow, List.range_succ]
theorem drow_take {f pc k n : Nat} (h : k ≤ n) : (drow f pc n).take k = drow f pc k := by
  unfold drow
  rw [← List.map_take, List.take_range, Nat.min_eq_left h]
theorem dch_sg (f pc k : Nat) : Sg (dch f pc k) := by
  have hl : alls.length = 93 := by decide
  have lt : (f + pc * k) % 93 < alls.length := by rw [hl]; exact Nat.mod_lt _ (by decide)
  have m : dch f pc k ∈ alls := by
    unfold dch
    rw [List.getD_eq_getElem?_getD, List.getElem?_eq_getElem lt]
    exact List.getElem_mem lt
  unfold alls at m
  rw [List.mem_append, List.mem_range'_1, List.mem_range'_1] at m
  unfold Sg
  omega
theorem drow_sg (f pc k : Nat) : ∀ c ∈ drow f pc k, Sg c := fun c hc => by
  obtain ⟨j, _, rfl⟩ := List.mem_map.mp hc
  exact dch_sg f pc j
theorem alls_nd : alls.Nodup := by decide
theorem dch_ne {f pc i j : Nat} (hpc : pc = 1 ∨ pc = 2 ∨ pc = 4 ∨ pc = 5 ∨ pc = 7 ∨ pc = 91) (h : i < j) (hj : j < 93) : dch f pc i ≠ dch f pc j := by
  have hl : alls.length = 93 := by decide
  have l1 : (f + pc * i) % 93 < alls.length := by rw [hl]; exact Nat.mod_lt _ (by decide)
  have l2 : (f + pc * j) % 93 < alls.length := by rw [hl]; exact Nat.mod_lt _ (by decide)
  intro e
  unfold dch at e
  rw [List.getD_eq_getElem?_getD, List.getElem?_eq_getElem l1, List.getD_eq_getElem?_getD, List.getElem?_eq_getElem l2] at e
  have e2 := (List.getElem_inj alls_nd).mp (show alls[(f + pc * i) % 93] = alls[(f + pc * j) % 93] from e)
  rcases hpc with rfl | rfl | rfl | rfl | rfl | rfl <;> omega
theorem drow_inj {f pc k : Nat} (hpc : pc = 1 ∨ pc = 2 ∨ pc = 4 ∨ pc = 5 ∨ pc = 7 ∨ pc = 91) (h : k ≤ 93) : (drow f pc k).Nodup := by
  unfold drow
  rw [List.nodup_iff_pairwise_ne, List.pairwise_map]
  refine List.Pairwise.imp_of_mem ?_ (List.pairwise_lt_range (n := k))
  intro a b _ hb hab
  exact dch_ne hpc hab (by have := List.mem_range.mp hb; omega)
theorem sum_one : ∀ l : List Nat, ((l.map fun c => tx [c]).map (·.length)).sum = l.length
  | [] => rfl
  | x :: r => by
    have ih := sum_one r
    simp only [List.map_cons, List.sum_cons, List.length_cons, tx_len, List.length_nil] at ih ⊢
    omega
instance (c : Nat) : Decidable (Sg c) := inferInstanceAs (Decidable (33 ≤ c ∧ c ≤ 126 ∧ c ≠ 37))
instance (z : Str) : Decidable (Sgs z) := inferInstanceAs (Decidable (∀ c ∈ z.cps.toList, Sg c))
def sp_l_code (T : Txt K mg) : Sp := fun vs H Q _ => ∃ (b : Addr) (n : Nat), vs = [.ref b] ∧ BagAt H b (n + 10) ∧
  ∀ p z d (w : Nat) H', SameB b H H' → BagAt H' b n → H p = none → H' p = some (.tup [.str z, .str d, .int w]) → Drawn z d ∧ w ≤ 76 → Q (.ref p) H'
theorem len_l_code (T : Txt K mg) (vs : List V) (H : Hp) (Q : VK) (E : XK) (h : sp_l_code T vs H Q E) : vs.length = 1 := by
  obtain ⟨_, _, rfl, _⟩ := h
  rfl
def t_l_code (T : Txt K mg) : TS := (tSeq (tAsg (tTup (tCons (tCall (sp_l_all_signs T) [] E0 tNil) (tCons (tCall (sp_l_of T) [] E0 (tCons (tVar 0) (tCons (tLst (tCons (tC (.int 2)) (tCons (tC (.int 4)) (tCons (tC (.int 8)) (tCons (tC (.int 16)) (tCons (tC (.int 32)) (tCons (tC (.int 64)) tNil))))))) tNil))) tNil))) (gTup K 2 (gCons (gName 1) (gCons (gName 2) gNil))))
    (tSeq (tAsg (tTup (tCons (tCall (sp_l_take T) [] E0 (tCons (tVar 0) (tCons (tC (.int 93)) tNil))) (tCons (tCall (sp_l_of T) [] E0 (tCons (tVar 0) (tCons (tLst (tCons (tC (.int 1)) (tCons (tC (.int 2)) (tCons (tC (.int 4)) (tCons (tC (.int 5)) (tCons (tC (.int 7)) (tCons (tC (.int 91)) tNil))))))) tNil))) tNil))) (gTup K 2 (gCons (gName 3) (gCons (gName 4) gNil))))
    (tSeq (tAsg (tLc (iRng1 (tCons (tOp (rAddU K) (tVar 2) (tC (.int 1))) tNil)) (gName 7) tYes (tOp (rIx K) (tVar 1) (tOp rModI (tOp (rAddU K) (tVar 3) (tOp (rMulU K) (tVar 4) (tVar 7))) (tC (.int 93)))) [7]) (gName 5))
    (tSeq (tAsg (tCall (sp_l_of T) [] E0 (tCons (tVar 0) (tCons (tLst (tCons (tC (.int 0)) (tCons (tC (.int 0)) (tCons (tC (.int 1)) (tCons (tC (.int 2)) (tCons (tC (.int 3)) (tCons (tC (.int 4)) (tCons (tC (.int 5)) (tCons (tC (.int 8)) (tCons (tC (.int 9)) (tCons (tC (.int 20)) tNil))))))))))) tNil))) (gName 6))
    (tSeq (tIfS (tTest (tOp (rEqU K) (tCall (sp_l_take T) [] E0 (tCons (tVar 0) (tCons (tC (.int 5)) tNil))) (tC (.int 0)))) (tRet (tTup (tCons (tC (.str (Str.ofString "0123456789ABCDEF"))) (tCons (tC (.str (Str.ofString ""))) (tCons (tVar 6) tNil))))) tNext)
    (tSeq (tIfS (tTest (tOp (rEqU K) (tCall (sp_l_take T) [] E0 (tCons (tVar 0) (tCons (tC (.int 6)) tNil))) (tC (.int 0)))) (tRet (tTup (tCons (tC (.str (Str.ofString "ABCDEFGHIJKLMNOPQRSTUVWXYZ234567"))) (tCons (tC (.str (Str.ofString "="))) (tCons (tVar 6) tNil))))) tNext)
    (tRet (tTup (tCons (tJoinU K (tC (.str (Str.ofString ""))) (tSl (rSlU K) (tVar 5) tNoPart (tPart (tVar 2)))) (tCons (tCall (sp_l_of T) [] E0 (tCons (tVar 0) (tCons (tLst (tCons (tC (.str (Str.ofString ""))) (tCons (tOp (rIx K) (tVar 5) (tVar 2)) tNil))) tNil))) (tCons (tVar 6) tNil)))))))))))

theorem pure_l_code (T : Txt K mg) (vs : List V) (H : Hp) (Q : VK) (E : XK) (h : sp_l_code T vs H Q E) : t_l_code T { nx := fun _ H' => Q .non H', rt := Q } (start ["_law_bag_here", "_law_some", "_law_many", "_law_first", "_law_pace", "_law_row", "_law_room", "_law_k"] vs) H := by
  obtain ⟨b, n, rfl, hB, q⟩ := h
  unfold t_l_code
  walk_at "rd"
  refine ⟨rfl, ?_⟩
  walk_at "rd"
  walk_at "new"
  refine ⟨b, p, _, n + 9, rfl, ql hv, hB.ne np, (hB.same hs).mono (by omega), by decide, by decide, fun j x H1 hx hB1 s1 => ?_⟩
  obtain ⟨m, rfl, hm1, hm6⟩ : ∃ m : Nat, x = .int ((2 ^ m : Nat) : Int) ∧ 1 ≤ m ∧ m ≤ 6 := by
    match j, hx with
    | 0, hx => exact ⟨1, (Option.some.inj hx).symm, by decide, by decide⟩
    | 1, hx => exact ⟨2, (Option.some.inj hx).symm, by decide, by decide⟩
    | 2, hx => exact ⟨3, (Option.some.inj hx).symm, by decide, by decide⟩
    | 3, hx => exact ⟨4, (Option.some.inj hx).symm, by decide, by decide⟩
    | 4, hx => exact ⟨5, (Option.some.inj hx).symm, by decide, by decide⟩
    | 5, hx => exact ⟨6, (Option.some.inj hx).symm, by decide, by decide⟩
    | j + 6, hx => cases hx
  have pm : 2 ^ m ≤ 64 := Nat.le_trans (Nat.pow_le_pow_right (by decide) hm6) (by decide)
  have pm1 : 1 ≤ 2 ^ m := Nat.one_le_two_pow
  have hlen : alls.length = 93 := by decide
  walk_at "rd"
  refine And.intro (by show 2 ≤ sizeLine; decide) ?_
  intro t1 nt1
  generalize hg1 : upd _ t1 _ = H2
  have s2 := same_of hg1 nt1
  have v2 := at_of hg1
  clear hg1
  have S2 : SameB b H H2 := (toB hs).trans (s1.trans (toB s2))
  walk_at "rd"
  refine ⟨b, 93, n + 8, rfl, hB1.same s2, by decide, by decide, fun r H3 r0 r1 hB3 s3 => ?_⟩
  obtain ⟨f, rfl⟩ : ∃ f : Nat, r = f := ⟨r.toNat, by omega⟩
  walk_at "rd"
  refine And.intro (by show 6 ≤ sizeLine; decide) ?_
  intro l2 nl2
  generalize hg2 : upd _ l2 _ = H4
  have s4 := same_of hg2 nl2
  have v4 := at_of hg2
  clear hg2
  walk_at "rd"
  refine ⟨b, l2, _, n + 7, rfl, ql v4, hB3.ne nl2, hB3.same s4, by decide, by decide, fun j2 x2 H5 hx2 hB5 s5 => ?_⟩
  obtain ⟨pc, rfl, hpc⟩ : ∃ pc : Nat, x2 = .int (pc : Nat) ∧ (pc = 1 ∨ pc = 2 ∨ pc = 4 ∨ pc = 5 ∨ pc = 7 ∨ pc = 91) := by
    match j2, hx2 with
    | 0, hx => exact ⟨1, (Option.some.inj hx).symm, by decide⟩
    | 1, hx => exact ⟨2, (Option.some.inj hx).symm, by decide⟩
    | 2, hx => exact ⟨4, (Option.some.inj hx).symm, by decide⟩
    | 3, hx => exact ⟨5, (Option.some.inj hx).symm, by decide⟩
    | 4, hx => exact ⟨7, (Option.some.inj hx).symm, by decide⟩
    | 5, hx => exact ⟨91, (Option.some.inj hx).symm, by decide⟩
    | j + 6, hx => cases hx
  have hpc91 : pc ≤ 91 := by omega
  walk_at "rd"
  refine And.intro (by show 2 ≤ sizeLine; decide) ?_
  intro t3 nt3
  generalize hg3 : upd _ t3 _ = H6
  have s6 := same_of hg3 nt3
  have v6 := at_of hg3
  clear hg3
  have hB6 := hB5.same s6
  have S6 : SameB b H H6 := S2.trans (s3.trans ((toB s4).trans (s5.trans (toB s6))))
  walk_at "rd"
  refine r_one ⟨by omega, by omega⟩ fun D nD => ?_
  have nDb : D ≠ b := hB6.ne nD
  refine c_it (walk_range (lo := 0) (n := (((2 ^ m : Nat) : Int) + 1).toNat)) (fun i G => G D = some (.lst ((drow f pc i).map fun c => V.str (tx [c]))) ∧ Same H6 G) ⟨upd_same, same_new nD⟩ (fun _ _ _ _ => trivial) ?_ ?_
  · rintro i x G G' hi ⟨hD, sG⟩ ⟨rfl, rfl⟩
    have hi' : i ≤ 64 := by omega
    walk_at "rd"
    refine ⟨rfl, ?_⟩
    walk_at "rd"
    have em1 : ((f : Int) + (pc : Int) * (0 + (i : Int))).fmod 93 = (((f + pc * i) % 93 : Nat) : Int) := by
      rw [Int.fmod_eq_emod_of_nonneg _ (by decide), Int.zero_add, Int.natCast_emod, Int.natCast_add, Int.natCast_mul]
      rfl
    rw [em1]
    have lt93 : (f + pc * i) % 93 < alls.length := by rw [hlen]; exact Nat.mod_lt _ (by decide)
    refine r_ixS (c := dch f pc i) (smallS (by rw [tx_len, hlen]; decide)) ?_ ?_
    · rw [tx_list]
      refine atI_nat ?_
      unfold dch
      rw [List.getD_eq_getElem?_getD, List.getElem?_eq_getElem lt93]
      rfl
    refine ⟨_, hD, ?_, ?_, same_mut sG nD⟩
    · rw [List.length_map, drow_len]
      exact Nat.lt_of_le_of_lt hi' (by rw [sizeLine_eq]; decide)
    · rw [upd_same, drow_succ, List.map_append]
      rfl
  rintro G ⟨hD, sG⟩
  rw [show (((2 ^ m : Nat) : Int) + 1).toNat = 2 ^ m + 1 by omega] at hD
  walk_at "rd"
  refine And.intro (by show 10 ≤ sizeLine; decide) ?_
  intro l4 nl4
  generalize hg4 : upd _ l4 _ = H7
  have s7 := same_of hg4 nl4
  have v7 := at_of hg4
  clear hg4
  have hBG := hB6.same sG
  walk_at "rd"
  refine ⟨b, l4, _, n + 6, rfl, ql v7, hBG.ne nl4, hBG.same s7, by decide, by decide, fun j3 x3 H8 hx3 hB8 s8 => ?_⟩
  obtain ⟨w0, rfl, hw0⟩ : ∃ w0 : Nat, x3 = .int (w0 : Nat) ∧ w0 ≤ 76 := by
    match j3, hx3 with
    | 0, hx => exact ⟨0, (Option.some.inj hx).symm, by decide⟩
    | 1, hx => exact ⟨0, (Option.some.inj hx).symm, by decide⟩
    | 2, hx => exact ⟨1, (Option.some.inj hx).symm, by decide⟩
    | 3, hx => exact ⟨2, (Option.some.inj hx).symm, by decide⟩
    | 4, hx => exact ⟨3, (Option.some.inj hx).symm, by decide⟩
    | 5, hx => exact ⟨4, (Option.some.inj hx).symm, by decide⟩
    | 6, hx => exact ⟨5, (Option.some.inj hx).symm, by decide⟩
    | 7, hx => exact ⟨8, (Option.some.inj hx).symm, by decide⟩
    | 8, hx => exact ⟨9, (Option.some.inj hx).symm, by decide⟩
    | 9, hx => exact ⟨20, (Option.some.inj hx).symm, by decide⟩
    | j + 10, hx => cases hx
  have S8 : SameB b H H8 := S6.trans ((toB (sG.trans s7)).trans s8)
  have hD8 : H8 D = some (.lst ((drow f pc (2 ^ m + 1)).map fun c => V.str (tx [c]))) := s8 _ _ nDb (s7 _ _ hD)
  walk_at "rd"
  refine ⟨b, 5, n + 5, rfl, hB8, by decide, by decide, fun r2 H9 r20 r21 hB9 s9 => ?_⟩
  have hD9 := s9 _ _ nDb hD8
  have S9 := S8.trans s9
  walk_at "rd"
  refine r_iteD (fun h5 => ?_) (fun h5 => ?_)
  · walk_at "rd"
    refine And.intro (by show 3 ≤ sizeLine; decide) ?_
    intro t5 nt5
    generalize hg5 : upd _ t5 _ = H10
    have s10 := same_of hg5 nt5
    have v10 := at_of hg5
    exact q t5 _ _ w0 H10 (S9.trans (toB s10)) ((hB9.same s10).mono (by omega)) (S9.free (hB9.ne nt5) nt5) v10 ⟨⟨⟨4, by decide, by decide, by decide⟩, by decide +kernel, by decide +kernel, by decide +kernel, by decide, by decide +kernel⟩, hw0⟩
  walk_at "rd"
  refine ⟨b, 6, n + 4, rfl, hB9, by decide, by decide, fun r3 H10 r30 r31 hB10 s10 => ?_⟩
  have hD10 := s10 _ _ nDb hD9
  have S10 := S9.trans s10
  walk_at "rd"
  refine r_iteD (fun h6 => ?_) (fun h6 => ?_)
  · walk_at "rd"
    refine And.intro (by show 3 ≤ sizeLine; decide) ?_
    intro t5 nt5
    generalize hg5 : upd _ t5 _ = H11
    have s11 := same_of hg5 nt5
    have v11 := at_of hg5
    exact q t5 _ _ w0 H11 (S10.trans (toB s11)) ((hB10.same s11).mono (by omega)) (S10.free (hB10.ne nt5) nt5) v11 ⟨⟨⟨5, by decide, by decide, by decide⟩, by decide +kernel, by decide +kernel, by decide +kernel, by decide, by decide +kernel⟩, hw0⟩
  walk_at "rd"
  refine r_join ?_ rfl
  walk_at "rd"
  refine r_slUL (ql hD10) ?_
  intro l6 nl6
  generalize hg6 : upd _ l6 _ = H11
  have s11 := same_of hg6 nl6
  have v11 := at_of hg6
  clear hg6
  rw [cutV_take (by rw [List.length_map, drow_len]; omega), ← List.map_take, drow_take (by omega)] at v11
  have hD11 := s11 _ _ hD10
  refine ⟨_, l6, (drow f pc (2 ^ m)).map fun c => tx [c], rfl, rfl, .inl (ql (by rw [List.map_map]; exact v11)), ?_, ?_⟩
  · have e0 : (Str.ofString "").length = 0 := rfl
    rw [e0, Nat.mul_zero, Nat.add_zero]
    have := sum_one (drow f pc (2 ^ m))
    rw [drow_len] at this
    omega
  have ej : Txt.join (Str.ofString "") ((drow f pc (2 ^ m)).map fun c => tx [c]) = tx (drow f pc (2 ^ m)) := by
    have := txt_join_tx ((drow f pc (2 ^ m)).map fun c => [c])
    rw [List.map_map] at this
    have e : (tx ∘ fun c => [c]) = fun c : Nat => tx [c] := rfl
    rw [e] at this
    rw [this]
    congr 1
    induction drow f pc (2 ^ m) with
    | nil => rfl
    | cons y r ih => rw [List.map_cons, List.flatten_cons, ih]; rfl
  rw [ej]
  have g1 : atI ((drow f pc (2 ^ m + 1)).map fun c => V.str (tx [c])) ((2 ^ m : Nat) : Int) = some (V.str (tx [dch f pc (2 ^ m)])) := by
    refine atI_nat ?_
    rw [List.getElem?_map, drow_succ, List.getElem?_append_right (by rw [drow_len]; exact Nat.le_refl _), drow_len, Nat.sub_self]
    rfl
  walk_at "rd"
  refine And.intro (by show 2 ≤ sizeLine; decide) ?_
  intro l7 nl7
  generalize hg7 : upd _ l7 _ = H12
  have s12 := same_of hg7 nl7
  have v12 := at_of hg7
  clear hg7
  have hB11 := hB10.same s11
  walk_at "rd"
  refine ⟨b, l7, _, n + 3, rfl, ql v12, hB11.ne nl7, hB11.same s12, (by show 0 < 2; decide), (by show 2 < 1000000; decide), fun j4 x4 H13 hx4 hB13 s13 => ?_⟩
  have S13 := S10.trans ((toB (s11.trans s12)).trans s13)
  have dj := drow_inj (f := f) hpc (k := 2 ^ m + 1) (by omega)
  have dsg := drow_sg f pc
  have fin : ∀ (d : Str) (t : Addr) (H' : Hp), Same H13 H' → H13 t = none → H' t = some (.tup [.str (tx (drow f pc (2 ^ m))), .str d, .int w0]) → (d = Str.ofString "" ∨ d = tx [dch f pc (2 ^ m)]) → Q (.ref t) H' := by
    intro d t H' sH nt ht hd
    refine q t _ _ w0 H' (S13.trans (toB sH)) ((hB13.same sH).mono (by omega)) (S13.free (hB13.ne nt) nt) ht ⟨⟨⟨m, hm1, hm6, by rw [tx_len, drow_len]⟩, ?_, ?_, ?_, ?_, ?_⟩, hw0⟩
    · intro c hc
      rw [tx_list] at hc
      exact dsg _ c hc
    · intro c hc
      rcases hd with rfl | rfl
      · exact (nomatch hc)
      · rw [tx_list] at hc
        rw [List.mem_singleton.mp hc]
        refine dsg (2 ^ m + 1) _ ?_
        rw [drow_succ]
        simp
    · rw [tx_list]
      rw [drow_succ] at dj
      exact (List.nodup_append.mp dj).1
    · rcases hd with rfl | rfl
      · exact Nat.zero_le _
      · rw [tx_len]; exact Nat.le_refl _
    · intro c hc m2
      rw [tx_list] at m2
      rcases hd with rfl | rfl
      · exact (nomatch hc)
      · rw [tx_list] at hc
        rw [List.mem_singleton.mp hc] at m2
        rw [drow_succ] at dj
        exact (List.nodup_append.mp dj).2.2 _ m2 _ (by simp) rfl
  match j4, hx4 with
  | 0, hx4 =>
    cases hx4
    walk_at "rd"
    refine And.intro (by show 3 ≤ sizeLine; decide) ?_
    intro t9 nt9
    exact fin _ t9 _ (same_new nt9) nt9 upd_same (.inl rfl)
  | 1, hx4 =>
    cases hx4
    walk_at "rd"
    refine And.intro (by show 3 ≤ sizeLine; decide) ?_
    intro t9 nt9
    exact fin _ t9 _ (same_new nt9) nt9 upd_same (.inr rfl)
  | j + 2, hx4 => cases hx4
theorem ok_l_code (T : Txt K mg) : FnOk P w K mg base CX0 3 T.l_code_a T.l_code_d ["_law_bag_here"] (sp_l_code T) := by
  refine T.l_code_f.ok sc_l_code (fun vs H Q E h => len_l_code T vs H Q E h) (fun cdv A outer s H vs Q E hr h => ⟨t_l_code T, PSs.nox ?_, pure_l_code T vs H Q E h⟩)
  have hu := hu64 hr
  exact (pss_cons (ps_asg (pe_tup (pa_cons (pe_call0 (ok_l_all_signs T) (hr.mono (by decide)) (by rfl) T.l_all_signs_g T.l_all_signs_f.kp T.l_all_signs_b .nil pass0) (pa_cons (pe_call (ok_l_of T) (hr.mono (by decide)) (by rfl) T.l_of_g T.l_of_f.kp T.l_of_b .nil pass0 (pa_cons (pv 0) (pa_cons (pe_lst (pa_cons pe_int (pa_cons pe_int (pa_cons pe_int (pa_cons pe_int (pa_cons pe_int (pa_cons pe_int pa_nil))))))) pa_nil))) pa_nil))) (pg_tup (by rfl) (pgs_cons (pg_name (i := 1) sc_l_code.nd rfl (.inr rfl)) (pgs_cons (pg_name (i := 2) sc_l_code.nd rfl (.inl rfl)) pgs_nil))))
      (pss_cons (ps_asg (pe_tup (pa_cons (pe_call (ok_l_take T) (hr.mono (by decide)) (by rfl) T.l_take_g T.l_take_f.kp T.l_take_b .nil pass0 (pa_cons (pv 0) (pa_cons pe_int pa_nil))) (pa_cons (pe_call (ok_l_of T) (hr.mono (by decide)) (by rfl) T.l_of_g T.l_of_f.kp T.l_of_b .nil pass0 (pa_cons (pv 0) (pa_cons (pe_lst (pa_cons pe_int (pa_cons pe_int (pa_cons pe_int (pa_cons pe_int (pa_cons pe_int (pa_cons pe_int pa_nil))))))) pa_nil))) pa_nil))) (pg_tup (by rfl) (pgs_cons (pg_name (i := 3) sc_l_code.nd rfl (.inr rfl)) (pgs_cons (pg_name (i := 4) sc_l_code.nd rfl (.inr rfl)) pgs_nil))))
      (pss_cons (ps_setLc (i := 5) (own := [("_law_k", 7)]) (g := (gName 7)) (tt := tYes) rfl sc_l_code.nd rfl rfl (sw_true rfl rfl rfl (by decide +kernel)) (pi_range1 (by rfl) T.n_range (pa_cons (pe_op op_addU (pv 2) pe_int) pa_nil)) (blkOk_by (own := [("_law_k", 7)]) (N := ["_law_bag_here", "_law_some", "_law_many", "_law_first", "_law_pace", "_law_row", "_law_room", "_law_k"]) (sc := defScope s_l_code) (by decide +kernel)) (fun _ _ _ _ _ => (pg_name (i := 7) sc_l_code.nd rfl (.inl rfl))) (fun _ _ _ _ _ => pts_nil) (fun _ _ _ _ _ => (pe_ix ix_seq (pv 1) (pe_op op_modN (pe_op op_addU (pv 3) (pe_op op_mulU (pv 4) (pv 7))) pe_int) (fun _ _ => rfl))))
      (pss_cons (ps_set (i := 6) sc_l_code.nd rfl (.inl rfl) (pe_call (ok_l_of T) (hr.mono (by decide)) (by rfl) T.l_of_g T.l_of_f.kp T.l_of_b .nil pass0 (pa_cons (pv 0) (pa_cons (pe_lst (pa_cons pe_int (pa_cons pe_int (pa_cons pe_int (pa_cons pe_int (pa_cons pe_int (pa_cons pe_int (pa_cons pe_int (pa_cons pe_int (pa_cons pe_int (pa_cons pe_int pa_nil))))))))))) pa_nil))))
      (pss_cons (ps_if (pt_cmpR (op_eqU hu) (pe_call (ok_l_take T) (hr.mono (by decide)) (by rfl) T.l_take_g T.l_take_f.kp T.l_take_b .nil pass0 (pa_cons (pv 0) (pa_cons pe_int pa_nil))) pe_int (nomark _)) (pss_one (ps_ret (pe_tup (pa_cons pe_str (pa_cons pe_str (pa_cons (pv 6) pa_nil)))))) pss_nil)
      (pss_cons (ps_if (pt_cmpR (op_eqU hu) (pe_call (ok_l_take T) (hr.mono (by decide)) (by rfl) T.l_take_g T.l_take_f.kp T.l_take_b .nil pass0 (pa_cons (pv 0) (pa_cons pe_int pa_nil))) pe_int (nomark _)) (pss_one (ps_ret (pe_tup (pa_cons pe_str (pa_cons pe_str (pa_cons (pv 6) pa_nil)))))) pss_nil)
      (pss_one (ps_ret (pe_tup (pa_cons (pe_join pe_str (pe_slice sl_U (pv 5) po_none (po_some (pv 2)))) (pa_cons (pe_call (ok_l_of T) (hr.mono (by decide)) (by rfl) T.l_of_g T.l_of_f.kp T.l_of_b .nil pass0 (pa_cons (pv 0) (pa_cons (pe_lst (pa_cons pe_str (pa_cons (pe_ix ix_seq (pv 5) (pv 2) (fun _ _ => rfl)) pa_nil))) pa_nil))) (pa_cons (pv 6) pa_nil))))))))))))

/-! ### codes and rules are drawn -/
def TupC (H : Hp) (p : Addr) (c : CodeD) : Prop := H p = some (.tup [.str c.sg, .str c.pd, .int c.wd])
def sp_l_made (T : Txt K mg) : Sp := fun vs H Q _ => ∃ p c, vs = [.ref p] ∧ TupC H p c ∧ c.New ∧ ∀ a H', Same H H' → H a = none → CodeAt T H' a c → Q (.ref a) H'
theorem len_l_made (T : Txt K mg) (vs : List V) (H : Hp) (Q : VK) (E : XK) (h : sp_l_made T vs H Q E) : vs.length = 1 := by
  obtain ⟨_, _, rfl, _⟩ := h
  rfl
def t_l_made (T : Txt K mg) : TS := (tRet (tMakeK T.C_Code 1 (["pad", "width"] : List Str).length (sp_Code___init__ T) (fun vs zs => vs ++ zs) E0 (tCons (tOp (rIx K) (tVar 0) (tC (.int 0))) tNil) (tCons (tOp (rIx K) (tVar 0) (tC (.int 1))) (tCons (tOp (rIx K) (tVar 0) (tC (.int 2))) tNil))))

theorem pure_l_made (T : Txt K mg) (vs : List V) (H : Hp) (Q : VK) (E : XK) (h : sp_l_made T vs H Q E) : t_l_made T { nx := fun _ H' => Q .non H', rt := Q } (start ["_law_code_here"] vs) H := by
  obtain ⟨p, c, rfl, hp, ok, q⟩ := h
  unfold TupC at hp
  unfold t_l_made
  walk_at "rd"
  refine ⟨rfl, rfl, fun x dx nx ndx nex => ?_⟩
  refine ⟨x, dx, c, rfl, upd_same, ok, fun H1 b1 c1 => ⟨rfl, ?_⟩⟩
  exact q x H1 (same_mutB nx (same_mut (same_new ndx) nx) b1) nx c1
theorem ok_l_made (T : Txt K mg) : FnOk P w K mg base CX0 5 T.l_made_a T.l_made_d ["_law_code_here"] (sp_l_made T) := by
  refine T.l_made_f.ok sc_l_made (fun vs H Q E h => len_l_made T vs H Q E h) (fun cdv A outer s H vs Q E hr h => ⟨t_l_made T, PSs.nox ?_, pure_l_made T vs H Q E h⟩)
  have hu := hu64 hr
  exact (pss_one (ps_ret (pe_makeK T.C_Code_m (ok_Code___init__ T) (hr.mono (by decide)) (by rfl) T.C_Code_g T.Code___init___k1_pad_width.choose_spec pass0 (pa_cons (pe_ix ix_seq (pv 0) pe_int (fun _ _ => rfl)) pa_nil) (pk_cons (pe_ix ix_seq (pv 0) pe_int (fun _ _ => rfl)) (pk_cons (pe_ix ix_seq (pv 0) pe_int (fun _ _ => rfl)) pk_nil)))))

def ocL : List Nat → List Nat
  | [c] => oc c
  | _ => []
theorem lt_one (a b : Nat) : decide (([a] : List Nat) < [b]) = decide (a < b) := decide_eq_decide.mpr (by simp [List.cons_lt_cons_iff])
theorem a_list : (Str.ofString "a").cps.toList = [97] := by decide +kernel
theorem z_list : (Str.ofString "z").cps.toList = [122] := by decide +kernel
theorem A_list : (Str.ofString "A").cps.toList = [65] := by decide +kernel
theorem Z_list : (Str.ofString "Z").cps.toList = [90] := by decide +kernel
theorem up_tx : ∀ c, c < 123 → 97 ≤ c → Txt.upper (tx [c]) = tx [c - 32] := by decide +kernel
theorem lo_tx : ∀ c, c < 91 → 65 ≤ c → Txt.lower (tx [c]) = tx [c + 32] := by decide +kernel
def sp_l_other (T : Txt K mg) : Sp := fun vs H Q _ => ∃ l : List Nat, vs = [.str (tx l)] ∧ l.length ≤ 1 ∧ Q (.str (tx (ocL l))) H
theorem len_l_other (T : Txt K mg) (vs : List V) (H : Hp) (Q : VK) (E : XK) (h : sp_l_other T vs H Q E) : vs.length = 1 := by
  obtain ⟨_, rfl, _⟩ := h
  rfl
def t_l_other (T : Txt K mg) : TS := (tSeq (tIfS (tTest (tChain rLeS rLeS (tC (.str (Str.ofString "a"))) (tVar 0) (tC (.str (Str.ofString "z"))))) (tRet (tM0 rUpper (tVar 0))) tNext)
    (tRet (tIf (tTest (tChain rLeS rLeS (tC (.str (Str.ofString "A"))) (tVar 0) (tC (.str (Str.ofString "Z"))))) (tM0 rLower (tVar 0)) (tC (.str (Str.ofString ""))))))

theorem pure_l_other (T : Txt K mg) (vs : List V) (H : Hp) (Q : VK) (E : XK) (h : sp_l_other T vs H Q E) : t_l_other T { nx := fun _ H' => Q .non H', rt := Q } (start ["_law_letter"] vs) H := by
  obtain ⟨l, rfl, hl, q⟩ := h
  unfold t_l_other
  match l, hl, q with
  | [], _, q =>
    walk_at "rd"
    refine r_leS ?_
    rw [tx_list, a_list, show decide (([] : List Nat) < [97]) = true from rfl]
    walk_at "rd"
    refine r_leS ?_
    rw [tx_list, A_list, show decide (([] : List Nat) < [65]) = true from rfl]
    walk_at "rd"
    exact q
  | [c], _, q =>
    have q : Q (.str (tx (oc c))) H := q
    unfold oc at q
    walk_at "rd"
    refine r_leS ?_
    rw [tx_list, a_list, lt_one]
    by_cases h1 : c < 97
    · rw [decide_eq_true h1]
      walk_at "rd"
      refine r_leS ?_
      rw [tx_list, A_list, lt_one]
      by_cases h3 : c < 65
      · rw [decide_eq_true h3]
        walk_at "rd"
        rw [if_neg (by omega), if_neg (by omega)] at q
        exact q
      · rw [decide_eq_false h3]
        walk_at "rd"
        refine r_leS ?_
        rw [tx_list, Z_list, lt_one]
        by_cases h4 : 90 < c
        · rw [decide_eq_true h4]
          walk_at "rd"
          rw [if_neg (by omega), if_neg (by omega)] at q
          exact q
        · rw [decide_eq_false h4]
          walk_at "rd"
          refine ⟨⟨_, rfl⟩, _, rfl, rfl, by rw [tx_len]; show 1 ≤ 5592405; decide, ?_⟩
          rw [lo_tx c (by omega) (by omega)]
          rw [if_pos (by omega)] at q
          exact q
    · rw [decide_eq_false h1]
      walk_at "rd"
      refine r_leS ?_
      rw [tx_list, z_list, lt_one]
      by_cases h2 : 122 < c
      · rw [decide_eq_true h2]
        walk_at "rd"
        refine r_leS ?_
        rw [tx_list, A_list, lt_one]
        by_cases h3 : c < 65
        · rw [decide_eq_true h3]
          walk_at "rd"
          rw [if_neg (by omega), if_neg (by omega)] at q
          exact q
        · rw [decide_eq_false h3]
          walk_at "rd"
          refine r_leS ?_
          rw [tx_list, Z_list, lt_one]
          by_cases h4 : 90 < c
          · rw [decide_eq_true h4]
            walk_at "rd"
            rw [if_neg (by omega), if_neg (by omega)] at q
            exact q
          · rw [decide_eq_false h4]
            walk_at "rd"
            refine ⟨⟨_, rfl⟩, _, rfl, rfl, by rw [tx_len]; show 1 ≤ 5592405; decide, ?_⟩
            rw [lo_tx c (by omega) (by omega)]
            rw [if_pos (by omega)] at q
            exact q
      · rw [decide_eq_false h2]
        walk_at "rd"
        refine ⟨⟨_, rfl⟩, _, rfl, rfl, by rw [tx_len]; show 1 ≤ 5592405; decide, ?_⟩
        rw [up_tx c (by omega) (by omega)]
        rw [if_neg (by omega), if_pos (by omega)] at q
        exact q
theorem ok_l_other (T : Txt K mg) : FnOk P w K mg base CX0 1 T.l_other_a T.l_other_d ["_law_letter"] (sp_l_other T) := by
  refine T.l_other_f.ok sc_l_other (fun vs H Q E h => len_l_other T vs H Q E h) (fun cdv A outer s H vs Q E hr h => ⟨t_l_other T, PSs.nox ?_, pure_l_other T vs H Q E h⟩)
  have hu := hu64 hr
  exact (pss_cons (ps_if (pt_chain op_leS op_leS pe_str (pv 0) pe_str) (pss_one (ps_ret (pe_upper (pv 0)))) pss_nil)
      (pss_one (ps_ret (pe_ifExp (pt_chain op_leS op_leS pe_str (pv 0) pe_str) (pe_lower (pv 0)) pe_str))))

def RTup (H : Hp) (p : Addr) (r : RD) : Prop := H p = some (.tup [.str r.pads, .str (tx r.skip), .bl r.lines, .bl r.loose, .bl r.fold])
def sp_l_made_rules (T : Txt K mg) : Sp := fun vs H Q _ => ∃ p r, vs = [.ref p] ∧ RTup H p r ∧ r.Ok ∧ ∀ rr H', Same H H' → H rr = none → RulesAt T H' rr r → Q (.ref rr) H'
theorem len_l_made_rules (T : Txt K mg) (vs : List V) (H : Hp) (Q : VK) (E : XK) (h : sp_l_made_rules T vs H Q E) : vs.length = 1 := by
  obtain ⟨_, _, rfl, _⟩ := h
  rfl
def t_l_made_rules (T : Txt K mg) : TS := (tRet (tMakeK T.C_Rules 0 (["pads", "skip", "lines", "loose", "fold"] : List Str).length (sp_Rules___init__ T) (fun vs zs => vs ++ zs) E0 tNil (tCons (tOp (rIx K) (tVar 0) (tC (.int 0))) (tCons (tOp (rIx K) (tVar 0) (tC (.int 1))) (tCons (tOp (rIx K) (tVar 0) (tC (.int 2))) (tCons (tOp (rIx K) (tVar 0) (tC (.int 3))) (tCons (tOp (rIx K) (tVar 0) (tC (.int 4))) tNil)))))))

theorem pure_l_made_rules (T : Txt K mg) (vs : List V) (H : Hp) (Q : VK) (E : XK) (h : sp_l_made_rules T vs H Q E) : t_l_made_rules T { nx := fun _ H' => Q .non H', rt := Q } (start ["_law_ruled_here"] vs) H := by
  obtain ⟨p, r, rfl, hp, ok, q⟩ := h
  unfold RTup at hp
  unfold t_l_made_rules
  walk_at "rd"
  refine ⟨rfl, rfl, fun x dx nx ndx nex => ?_⟩
  exact ⟨x, dx, r, rfl, upd_same, ok, fun H1 b1 h1 => ⟨rfl, q x H1 (same_mutB nx (same_mut (same_new ndx) nx) b1) nx h1⟩⟩
theorem ok_l_made_rules (T : Txt K mg) : FnOk P w K mg base CX0 5 T.l_made_rules_a T.l_made_rules_d ["_law_ruled_here"] (sp_l_made_rules T) := by
  refine T.l_made_rules_f.ok sc_l_made_rules (fun vs H Q E h => len_l_made_rules T vs H Q E h) (fun cdv A outer s H vs Q E hr h => ⟨t_l_made_rules T, PSs.nox ?_, pure_l_made_rules T vs H Q E h⟩)
  have hu := hu64 hr
  exact (pss_one (ps_ret (pe_makeK0 T.C_Rules_m (ok_Rules___init__ T) (hr.mono (by decide)) (by rfl) T.C_Rules_g T.Rules___init___k0_pads_skip_lines_loose_fold.choose_spec pass0 (pk_cons (pe_ix ix_seq (pv 0) pe_int (fun _ _ => rfl)) (pk_cons (pe_ix ix_seq (pv 0) pe_int (fun _ _ => rfl)) (pk_cons (pe_ix ix_seq (pv 0) pe_int (fun _ _ => rfl)) (pk_cons (pe_ix ix_seq (pv 0) pe_int (fun _ _ => rfl)) (pk_cons (pe_ix ix_seq (pv 0) pe_int (fun _ _ => rfl)) pk_nil))))))))


end
section
variable {w : World} {K : PySem.W.Frag} {mg : Str → Option Value} {base : Heap}
local macro_rules | `(tactic| walk_at "hc") => `(tactic| first
  | assumption
  | ((refine CodeAt.same (H := ?xH) ?xb ?xa); (case xa => assumption); (case xb => walk_at "hc")))
local macro_rules | `(tactic| walk_at "rd0") => `(tactic| first
  | ((with_reducible refine r_get (a := ?xa) (c := ?xc) ?x1 ?x2 ?_); (case x1 => rfl); (case x2 => walk_at "hc"))
  | ((with_reducible refine r_methC (a := ?xa) (c := ?xc) ?x1 ?x2 ?x3 ?_); (case x1 => rfl); (case x2 => walk_at "hc"); (case x3 => (intro _ _ _; rfl)))
  | (with_reducible refine r_fmtB ?_)
  | (with_reducible refine r_dget ?_)
  | (with_reducible refine r_m0 ?_)
  | (with_reducible refine r_makeK ?_)
  | (with_reducible refine r_cval ?_)
  | (with_reducible refine r_sfld ?_)
  | (with_reducible refine r_isiI ?_)
  | (with_reducible refine r_isiIB ?_)
  | (with_reducible refine r_isiS ?_)
  | (with_reducible refine r_inID ?_))

local macro_rules | `(tactic| walk_at "hcr") => `(tactic| first
  | assumption
  | ((refine RulesAt.same (H := ?xH) ?xb ?xa); (case xa => assumption); (case xb => walk_at "hcr")))
local macro_rules | `(tactic| walk_at "rd0") => `(tactic| first
  | ((with_reducible refine r_getR (a := ?xa) (r := ?xr) ?x1 ?x2 ?_); (case x1 => rfl); (case x2 => walk_at "hcr")))

/-! ### rules that suit are drawn -/
def Chs (l : List Nat) : Prop := ∀ c ∈ l, Ch c
theorem Chs.app {a b : List Nat} (h : Chs a) (k : Chs b) : Chs (a ++ b) := fun c hc => (List.mem_append.mp hc).elim (h c) (k c)
theorem ch_nl : Chs [10] := fun c hc => by
  rw [List.mem_singleton.mp hc]
  exact .inl rfl
theorem ch_two : Chs [10, 32] := fun c hc => by
  simp only [List.mem_cons, List.not_mem_nil, or_false] at hc
  rcases hc with rfl | rfl
  · exact .inl rfl
  · exact .inr (by decide)
theorem sg_ch {c : Nat} (h : Sg c) : Ch c := by
  unfold Sg at h
  unfold Ch
  omega
theorem alls_ch : Chs alls := by
  have : ∀ c ∈ alls, Ch c := by decide +kernel
  exact this
theorem alls_len : alls.length = 93 := by decide +kernel
theorem sgs_list {z : Str} (h : Sgs z) : Chs z.cps.toList := fun c hc => sg_ch (h c hc)
theorem inV_sk (c : Nat) : ∀ sk : List Nat, inV (.str (tx [c])) (sk.map fun x => V.str (tx [x])) = decide (c ∈ sk)
  | [] => rfl
  | x :: r => by
    have ih := inV_sk c r
    unfold inV at ih ⊢
    rw [List.map_cons, List.any_cons, ih]
    show ((tx [x] == tx [c]) || decide (c ∈ r)) = _
    by_cases h : x = c
    · subst h
      simp
    · have n : (tx [x] == tx [c]) = false := by
        rw [beq_eq_false_iff_ne]
        exact fun z => h (List.cons.inj (tx_inj z)).1
      rw [n]
      simp [List.mem_cons, Ne.symm h]
theorem flat_sk (sk : List Nat) : (sk.map fun x => V.str (tx [x])).all flatV = true := by
  rw [List.all_map]
  exact List.all_eq_true.mpr fun _ _ => rfl
theorem r_ninL {x : V} {t : Addr} {xs : List V} {H : Hp} {Q : VK} (h1 : SqL K H t xs) (f1 : flatV x = true) (f2 : xs.all flatV = true) (h : Q (.bl (!inV x xs)) H) : rNinU K x (.ref t) H Q := .inr ⟨t, xs, rfl, .inl h1, f1, f2, h⟩
theorem join_sk (sk : List Nat) : Txt.join (Str.ofString "") (sk.map fun x => tx [x]) = tx sk := by
  have e : ∀ sk : List Nat, (sk.map fun x => [x]).flatten = sk := fun sk => by
    induction sk with
    | nil => rfl
    | cons x r ih => rw [List.map_cons, List.flatten_cons, ih]; rfl
  have := txt_join_tx (sk.map fun x => [x])
  rw [List.map_map, e] at this
  exact this
/-- all stays but the objects at b and f -/
def Two (b f : Addr) (H H' : Hp) : Prop := ∀ a o, a ≠ b → a ≠ f → H a = some o → H' a = some o
theorem Two.trans {b f : Addr} {H H1 H2 : Hp} (x : Two b f H H1) (y : Two b f H1 H2) : Two b f H H2 := fun a o n m h => y a o n m (x a o n m h)
theorem Two.of {b f : Addr} {H H' : Hp} (s : SameB b H H') : Two b f H H' := fun a o n _ h => s a o n h
theorem Two.of2 {b f : Addr} {H H' : Hp} (s : SameB f H H') : Two b f H H' := fun a o _ m h => s a o m h
def som : List Nat := [10, 32] ++ alls
theorem som_ch : Chs som := Chs.app ch_two alls_ch
theorem som_len : som.length = 95 := by decide +kernel
theorem som_eq : Str.ofString "\n " ++ tx alls = tx som := tx_app [10, 32] alls
abbrev chV (c : Nat) : V := .str (tx [c])
/-- a comprehension that keeps some of the characters -/
theorem r_filt {J : It} {n : Nat} {G0 : Hp → Prop} {Y : Nat → Hp → V → Hp → Prop} (w : Walk J n G0 Y) {xs : List Nat} {σ : S} {H : Hp} {tt : TT} {k : Nat} {D : Addr} {Qd : Hp → Prop} (p : Nat → Bool) (nD : H D = none) (hn : n = xs.length) (hl : xs.length ≤ 100) (hG : ∀ G, Same H G → G0 G)
    (hY : ∀ i G x G', i < n → Same H G → Y i G x G' → G' = G ∧ ∃ c, xs[i]? = some c ∧ x = chV c) (hk : k < σ.length)
    (ht : ∀ c G (R : Bool → Hp → Prop), c ∈ xs → Same H G → R (p c) G → tt ((wipe σ [k]).set k (some (chV c))) G R) (q : ∀ H', Same H H' → H' D = some (.lst ((xs.filter p).map chV)) → Qd H') : tLcs J (gName k) tt (tVar k) [k] σ H D Qd := by
  have hw : ∀ v : Option V, (wipe σ [k]).set k v = σ.set k v := fun v => by
    show (σ.set k none).set k v = _
    rw [List.set_set]
  refine c_it w (fun i G => Same H G ∧ G D = some (.lst (((xs.take i).filter p).map chV))) ⟨same_new nD, upd_same⟩ (fun i G _ h => hG G h.1) ?_ ?_
  · rintro i x G G' hi ⟨sG, hD⟩ y
    obtain ⟨rfl, c, hc, rfl⟩ := hY i G x G' hi sG y
    have et : xs.take (i + 1) = xs.take i ++ [c] := by rw [List.take_add_one, hc]; rfl
    show wipe ((wipe σ [k]).set k (some (chV c))) [k] = wipe σ [k] ∧ _
    refine ⟨?_, ht c G' _ (List.mem_of_getElem? hc) sG ?_⟩
    · rw [hw]
      show (σ.set k _).set k none = σ.set k none
      rw [List.set_set]
    · rw [et, List.filter_append]
      have e1 : [c].filter p = if p c = true then [c] else [] := by
        cases hp : p c <;> simp [hp]
      rw [e1]
      cases hp : p c with
      | false =>
        rw [if_neg (by decide), if_neg (by decide)]
        rw [List.append_nil]
        exact ⟨sG, hD⟩
      | true =>
        rw [if_pos rfl, if_pos rfl]
        refine r_var (v := chV c) ?_ ?_
        · rw [hw, List.getElem?_set_self hk]
        · refine ⟨_, hD, ?_, same_mut sG nD, ?_⟩
          · rw [List.length_map]
            have := List.length_filter_le p (xs.take i)
            have h2 : (xs.take i).length ≤ xs.length := by rw [List.length_take]; omega
            exact Nat.lt_of_le_of_lt (show _ ≤ 100 by omega) (by rw [sizeLine_eq]; decide)
          · rw [upd_same, List.map_append]
            rfl
  · rintro G ⟨sG, hD⟩
    rw [hn, List.take_of_length_le (Nat.le_refl _)] at hD
    exact q G sG hD
def left1 (c : CodeD) : List Nat := som.filter fun ch => !decide (ch ∈ c.sg.cps.toList) && !decide (tx [ch] = c.pd)
def inSg (c : CodeD) : List Nat → Bool
  | [d] => decide (d ∈ c.sg.cps.toList)
  | _ => false
def okB (c : CodeD) (ch : Nat) : Bool := !inSg c (oc ch)
def left2 (c : CodeD) (both : Bool) : List Nat := if both = true then (left1 c).filter (okB c) else left1 c
def left3 (c : CodeD) (rows both : Bool) : List Nat := if rows = true ∧ 0 < c.wd then (left2 c both).filter fun ch => !decide (tx [ch] = tx [10]) else left2 c both
theorem inL_of {c : CodeD} {l : List Nat} (h : inSg c l = false) : inL c l = false := by
  match l, h with
  | [], _ => rfl
  | [d], h =>
    have h : decide (d ∈ c.sg.cps.toList) = false := h
    show (decide (Sg d) && decide (d ∈ c.sg.cps.toList)) = false
    rw [h, Bool.and_false]
  | _ :: _ :: _, _ => rfl
theorem left1_of {c : CodeD} {ch : Nat} (h : ch ∈ left1 c) : ch ∈ som ∧ ch ∉ c.sg.cps.toList ∧ tx [ch] ≠ c.pd := by
  unfold left1 at h
  obtain ⟨h1, h2⟩ := List.mem_filter.mp h
  simp only [Bool.and_eq_true, Bool.not_eq_true', decide_eq_false_iff_not] at h2
  exact ⟨h1, h2.1, h2.2⟩
theorem left2_of {c : CodeD} {ch : Nat} {both : Bool} (h : ch ∈ left2 c both) : ch ∈ left1 c ∧ (both = true → okB c ch = true) := by
  unfold left2 at h
  by_cases hb : both = true
  · rw [if_pos hb] at h
    obtain ⟨h1, h2⟩ := List.mem_filter.mp h
    exact ⟨h1, fun _ => h2⟩
  · rw [if_neg hb] at h
    exact ⟨h, fun z => absurd z hb⟩
theorem left3_of {c : CodeD} {ch : Nat} {rows both : Bool} (h : ch ∈ left3 c rows both) : ch ∈ left2 c both ∧ (rows = true ∧ 0 < c.wd → ch ≠ 10) := by
  unfold left3 at h
  by_cases hb : rows = true ∧ 0 < c.wd
  · rw [if_pos hb] at h
    obtain ⟨h1, h2⟩ := List.mem_filter.mp h
    refine ⟨h1, fun _ e => ?_⟩
    rw [e] at h2
    simp at h2
  · rw [if_neg hb] at h
    exact ⟨h, fun z => absurd z hb⟩
theorem left_len (c : CodeD) (rows both : Bool) : (left1 c).length ≤ 95 ∧ (left2 c both).length ≤ 95 ∧ (left3 c rows both).length ≤ 95 := by
  have h1 : (left1 c).length ≤ 95 := by
    unfold left1
    exact Nat.le_trans (List.length_filter_le _ _) (Nat.le_of_eq som_len)
  have h2 : (left2 c both).length ≤ 95 := by
    unfold left2
    split
    · exact Nat.le_trans (List.length_filter_le _ _) h1
    · exact h1
  refine ⟨h1, h2, ?_⟩
  unfold left3
  split
  · exact Nat.le_trans (List.length_filter_le _ _) h2
  · exact h2
theorem left_32 {c : CodeD} (ok : c.Ok) (rows both : Bool) : 32 ∈ left3 c rows both := by
  have n1 : 32 ∉ c.sg.cps.toList := fun m => by
    have := ok.sgs 32 m
    unfold Sg at this
    omega
  have n2 : tx [32] ≠ c.pd := fun e => by
    have := ok.pds 32 (by rw [← e, tx_list]; exact List.mem_singleton.mpr rfl)
    unfold Sg at this
    omega
  have m1 : 32 ∈ left1 c := by
    unfold left1
    refine List.mem_filter.mpr ⟨by decide, ?_⟩
    rw [decide_eq_false n1, decide_eq_false n2]
    rfl
  have m2 : 32 ∈ left2 c both := by
    unfold left2
    split
    · exact List.mem_filter.mpr ⟨m1, rfl⟩
    · exact m1
  unfold left3
  split
  · exact List.mem_filter.mpr ⟨m2, by decide⟩
  · exact m2
theorem left_suit {c : CodeD} {p : Str} {sk : List Nat} {rows free both : Bool} (h : ∀ ch ∈ sk, ch ∈ left3 c rows both) : suitC c ⟨p, sk, rows, free, both⟩ = true := by
  unfold suitC rowsC
  have h1 : (decide (10 ∈ sk) && (rows && decide (0 < c.wd))) = false := by
    by_cases hm : 10 ∈ sk
    · have := (left3_of (h 10 hm)).2
      by_cases hr : rows = true ∧ 0 < c.wd
      · exact absurd rfl (this hr)
      · cases rows with
        | false => simp
        | true =>
          have : ¬ 0 < c.wd := fun z => hr ⟨rfl, z⟩
          simp [this]
    · simp [hm]
  have h2 : sk.all (forC c ⟨p, sk, rows, free, both⟩) = true := by
    refine List.all_eq_true.mpr fun ch hc => ?_
    obtain ⟨m2, _⟩ := left3_of (h ch hc)
    obtain ⟨m1, hb⟩ := left2_of m2
    obtain ⟨_, a1, a2⟩ := left1_of m1
    unfold forC
    rw [decide_eq_false a1, decide_eq_false a2]
    show (true && true && (!both || !inL c (oc ch))) = true
    cases both with
    | false => rfl
    | true =>
      have := hb rfl
      unfold okB at this
      rw [inL_of (by simpa using this)]
      rfl
  show (!(decide (10 ∈ sk) && (rows && decide (0 < c.wd))) && sk.all (forC c ⟨p, sk, rows, free, both⟩)) = true
  rw [h1, h2]
  rfl
theorem r_nin1 {c : Nat} {z : Str} {H : Hp} {Q : VK} (h : Q (.bl (!decide (c ∈ z.cps.toList))) H) : rNinU K (.str (tx [c])) (.str z) H Q := .inl ⟨c, z, rfl, rfl, h⟩
def sp_l_ruled (T : Txt K mg) : Sp := fun vs H Q _ => ∃ (b p : Addr) (n : Nat) (c : CodeD), vs = [.ref b, .ref p] ∧ BagAt H b (n + 12) ∧ TupC H p c ∧ c.New ∧
  ∀ q r H', SameB b H H' → BagAt H' b n → H q = none → RTup H' q r → r.Ok → suitC c r = true → Q (.ref q) H'
theorem len_l_ruled (T : Txt K mg) (vs : List V) (H : Hp) (Q : VK) (E : XK) (h : sp_l_ruled T vs H Q E) : vs.length = 2 := by
  obtain ⟨_, _, _, _, rfl, _⟩ := h
  rfl
def t_l_ruled (T : Txt K mg) : TS := (tSeq (tAsg (tLc (iRng1 (tCons (tC (.int 3)) tNil)) (gName 7) tYes (tOp (rEqU K) (tCall (sp_l_take T) [] E0 (tCons (tVar 0) (tCons (tC (.int 2)) tNil))) (tC (.int 0))) [7]) (gUnl K 3 (gCons (gName 2) (gCons (gName 3) (gCons (gName 4) gNil)))))
    (tSeq (tAsg (tLc (iSeqU K (tOp (rAddU K) (tC (.str (Str.ofString "\n "))) (tCall (sp_l_all_signs T) [] E0 tNil))) (gName 8) ((tAnd (tTest (tOp (rNinU K) (tVar 8) (tOp (rIx K) (tVar 1) (tC (.int 0))))) (tTest (tOp (rNeU K) (tVar 8) (tOp (rIx K) (tVar 1) (tC (.int 1))))))) (tVar 8) [8]) (gName 5))
    (tSeq (tIfS (tB (tVar 4)) (tAsg (tLc (iSeqU K (tVar 5)) (gName 8) ((tOr (tTest (tOp (rEqU K) (tCall (sp_l_other T) [] E0 (tCons (tVar 8) tNil)) (tC (.str (Str.ofString ""))))) (tTest (tOp (rNinU K) (tCall (sp_l_other T) [] E0 (tCons (tVar 8) tNil)) (tOp (rIx K) (tVar 1) (tC (.int 0))))))) (tVar 8) [8]) (gName 5)) tNext)
    (tSeq (tIfS (tAnd (tB (tVar 2)) (tTest (tOp rGtI (tOp (rIx K) (tVar 1) (tC (.int 2))) (tC (.int 0))))) (tAsg (tLc (iSeqU K (tVar 5)) (gName 8) ((tTest (tOp (rNeU K) (tVar 8) (tC (.str (Str.ofString "\n")))))) (tVar 8) [8]) (gName 5)) tNext)
    (tSeq (tAsg (tLst tNil) (gName 6))
    (tSeq (tFor (iRng1 (tCons (tCall (sp_l_take T) [] E0 (tCons (tVar 0) (tCons (tC (.int 4)) tNil))) tNil)) (gName 7) (tSeq (tAsg (tCall (sp_l_of T) [] E0 (tCons (tVar 0) (tCons (tVar 5) tNil))) (gName 8))
    (tIfS (tTest (tOp (rNinU K) (tVar 8) (tVar 6))) (tDrop (tBM K "list" rAppend (tVar 6) (tCons (tVar 8) tNil))) tNext)))
    (tRet (tTup (tCons (tCall (sp_l_of T) [] E0 (tCons (tVar 0) (tCons (tLst (tCons (tC (.str (Str.ofString "full"))) (tCons (tC (.str (Str.ofString "none"))) (tCons (tC (.str (Str.ofString "optional"))) (tCons (tC (.str (Str.ofString "any"))) tNil))))) tNil))) (tCons (tJoinU K (tC (.str (Str.ofString ""))) (tVar 6)) (tCons (tVar 2) (tCons (tVar 3) (tCons (tVar 4) tNil)))))))))))))

theorem pure_l_ruled (T : Txt K mg) (vs : List V) (H : Hp) (Q : VK) (E : XK) (h : sp_l_ruled T vs H Q E) : t_l_ruled T { nx := fun _ H' => Q .non H', rt := Q } (start ["_law_bag_here", "_law_code_here", "_law_rows_here", "_law_free", "_law_both", "_law_left", "_law_found", "_law_k", "_law_one"] vs) H := by
  obtain ⟨b, p, n, c, rfl, hB, hp, new, q⟩ := h
  have ok : c.Ok := new.1
  unfold TupC at hp
  have lsg : c.sg.length ≤ 100 := by
    rw [ok.ln]
    exact Nat.le_trans (Nat.pow_le_pow_right (by decide) ok.b6) (by decide)
  have lpd := ok.pl
  have npb : p ≠ b := by
    obtain ⟨o, ho⟩ := hB.some
    obtain ⟨bd, bm, bc, B, e⟩ := hB
    exact ne_ob hp e fun z => nomatch z
  unfold t_l_ruled
  walk_at "rd"
  refine r_one ⟨by decide, by decide⟩ fun D nD => ?_
  have nDb : D ≠ b := hB.ne nD
  refine c_it (walk_range (lo := 0) (n := (3 : Int).toNat)) (fun i G => ∃ bs : List Bool, bs.length = i ∧ G D = some (.lst (bs.map V.bl)) ∧ BagAt G b (n + 12 - i) ∧ SameB b H G) ⟨[], rfl, upd_same, hB.same (same_new nD), toB (same_new nD)⟩ (fun _ _ _ _ => trivial) ?_ ?_
  · rintro i x G4 G4' hi ⟨bs, el, hD, hB4, s4⟩ ⟨rfl, rfl⟩
    have hi3 : i < 3 := hi
    walk_at "rd"
    refine ⟨rfl, ?_⟩
    walk_at "rd"
    refine ⟨b, 2, n + 11 - i, rfl, hB4.mono (by omega), by decide, by decide, fun w G5 w0 w1 hB5 sb5 => ?_⟩
    walk_at "rd"
    have hD5 := sb5 _ _ nDb hD
    refine ⟨_, hD5, ?_, bs ++ [decide (w = 0)], by rw [List.length_append, el]; rfl, by rw [upd_same, List.map_append]; rfl, ?_, sameB_mut (s4.trans sb5) nD⟩
    · rw [List.length_map, el]
      exact Nat.lt_of_le_of_lt (show i ≤ 3 by omega) (by rw [sizeLine_eq]; decide)
    · obtain ⟨bd, bm, bc, B, e⟩ := hB5.mono (show n + 12 - (i + 1) ≤ _ by omega)
      exact ⟨bd, bm, bc, B, (upd_ne nDb.symm).trans e⟩
  rintro G1 ⟨bs, el, hD, hB1, s1⟩
  obtain ⟨rows, free, both, rfl⟩ : ∃ x0 x1 x2, bs = [x0, x1, x2] := by
    match bs, el with
    | [x0, x1, x2], _ => exact ⟨x0, x1, x2, rfl⟩
  have hD : G1 D = some (.lst [.bl rows, .bl free, .bl both]) := hD
  have hB1 : BagAt G1 b (n + 9) := hB1
  have hp1 := s1 _ _ npb hp
  refine r_gUnl (ql hD) rfl ?_
  walk_at "rd"
  refine r_iseqS ?_
  walk_at "rd"
  refine ⟨rfl, ?_⟩
  refine r_addUS (smallS (by rw [tx_len, alls_len]; decide)) ?_
  rw [som_eq]
  refine ⟨tx som, rfl, fun L nL => ?_⟩
  refine r_filt (xs := som) walk_str (fun ch => !decide (ch ∈ c.sg.cps.toList) && !decide (tx [ch] = c.pd)) nL (by simp [tx]) (by rw [som_len]; decide) (fun _ _ => trivial) (fun i G x G' _ _ y => ?_) (by show 8 < 9; decide) (fun ch G R hc sG hR => ?_) fun G2 s2 hL => ?_
  · obtain ⟨rfl, ch, hch, rfl⟩ := y
    refine ⟨rfl, ch, ?_, rfl⟩
    rw [← Array.getElem?_toList] at hch
    rwa [tx_list] at hch
  · have hpG := sG _ _ hp1
    walk_at "rd"
    refine r_nin1 ?_
    walk_at "rd"
    by_cases h1 : ch ∈ c.sg.cps.toList
    · rw [decide_eq_true h1] at hR ⊢
      walk_at "rd"
      exact hR
    · rw [decide_eq_false h1] at hR ⊢
      walk_at "rd"
      exact hR
  have hL : G2 L = some (.lst ((left1 c).map chV)) := hL
  have hp2 := s2 _ _ hp1
  have hB2 := hB1.same s2
  have yat : ∀ {xs : List Nat} {i : Nat} {G G' : Hp} {x : V} {L : Addr}, YAt (xs.map chV) i G x G' → G' = G ∧ ∃ c, xs[i]? = some c ∧ x = chV c := by
    rintro xs i G G' x L ⟨rfl, hx⟩
    rw [List.getElem?_map] at hx
    cases e : xs[i]? with
    | none => rw [e] at hx; cases hx
    | some c => rw [e] at hx; exact ⟨rfl, c, rfl, (Option.some.inj hx).symm⟩
  have ll := left_len c rows both
  walk_at "rx"
  refine r_seqC (fun σ G => ∃ L2, σ = [some (.ref b), some (.ref p), some (.bl rows), some (.bl free), some (.bl both), some (.ref L2), none, none, none] ∧ Same G2 G ∧ G L2 = some (.lst ((left2 c both).map chV))) ?_ fun N tail => ?_
  rotate_left
  · unfold left2 at tail
    cases both with
    | false =>
      walk_at "rd"
      exact tail _ _ ⟨L, rfl, Same.refl _, hL⟩
    | true =>
      walk_at "rd"
      refine r_iseqL ?_
      walk_at "rd"
      refine ⟨L, rfl, ⟨_, ql hL⟩, fun L2 nL2 => ?_⟩
      refine r_filt (xs := left1 c) (walk_list (K := K) (a := L) (xs := (left1 c).map chV)) (okB c) nL2 (List.length_map ..) (by omega) (fun G s => ql (s _ _ hL)) (fun i G x G' _ _ y => yat (L := L) y) (by show 8 < 9; decide) (fun ch G R hc sG hR => ?_) fun G3 s3 hL2 => ?_
      · have hpG := sG _ _ hp2
        unfold okB at hR
        walk_at "rd"
        refine ⟨[ch], rfl, Nat.le_refl _, ?_⟩
        walk_at "rd"
        rw [e_tx, tx_dec]
        show if decide (oc ch = []) = true then _ else _
        have hl := oc_len ch
        revert hR hl
        show R (!inSg c (oc ch)) G → (oc ch).length ≤ 1 → if decide (oc ch = []) = true then R true G else _
        by_cases h1 : oc ch = []
        · intro hR _
          rw [h1] at hR
          rw [decide_eq_true h1]
          exact hR
        · intro hR hl
          rw [decide_eq_false h1]
          rw [if_neg (by decide)]
          walk_at "rd"
          refine ⟨[ch], rfl, Nat.le_refl _, ?_⟩
          walk_at "rd"
          show rNinU K (.str (tx (oc ch))) _ _ _
          revert hR h1 hl
          match oc ch with
          | [] => intro h1 hR hl; exact absurd rfl h1
          | [d] =>
            intro h1 hR hl
            refine r_nin1 ?_
            walk_at "rd"
            exact hR
          | _ :: _ :: _ => intro h1 hR hl; simp at hl
      · walk_at "rd"
        exact tail _ _ ⟨L2, rfl, s3, hL2⟩
  rintro σ G ⟨L2, rfl, sG, hL2⟩
  have hpG := sG _ _ hp2
  have hBG := hB2.same sG
  walk_at "rx"
  refine r_seqC (fun σ G' => ∃ L3, σ = [some (.ref b), some (.ref p), some (.bl rows), some (.bl free), some (.bl both), some (.ref L3), none, none, none] ∧ Same G G' ∧ G' L3 = some (.lst ((left3 c rows both).map chV))) ?_ fun N tail => ?_
  rotate_left
  · unfold left3 at tail
    by_cases hrw : rows = true ∧ 0 < c.wd
    · rw [if_pos hrw] at tail
      obtain ⟨hr1, hr2⟩ := hrw
      subst hr1
      walk_at "rd"
      refine r_iteD (fun _ => ?_) (fun z => absurd (by omega) z)
      walk_at "rd"
      refine r_iseqL ?_
      walk_at "rd"
      refine ⟨L2, rfl, ⟨_, ql hL2⟩, fun L3 nL3 => ?_⟩
      refine r_filt (xs := left2 c both) (walk_list (K := K) (a := L2) (xs := (left2 c both).map chV)) (fun ch => !decide (tx [ch] = tx [10])) nL3 (List.length_map ..) (by omega) (fun G s => ql (s _ _ hL2)) (fun i G x G' _ _ y => yat (L := L2) y) (by show 8 < 9; decide) (fun ch G R hc sG hR => ?_) fun G3 s3 hL3 => ?_
      · walk_at "rd"
        exact hR
      · walk_at "rd"
        exact tail _ _ ⟨L3, rfl, s3, hL3⟩
    · rw [if_neg hrw] at tail
      cases rows with
      | false =>
        walk_at "rd"
        exact tail _ _ ⟨L2, rfl, Same.refl _, hL2⟩
      | true =>
        walk_at "rd"
        refine r_iteD (fun z => absurd ⟨rfl, by omega⟩ hrw) (fun _ => ?_)
        walk_at "rd"
        exact tail _ _ ⟨L2, rfl, Same.refl _, hL2⟩
  rintro σ G3 ⟨L3, rfl, sG3, hL3⟩
  have hB3 := hBG.same sG3
  have l95 : (left3 c rows both).length ≤ 95 := ll.2.2
  have l1 : 0 < (left3 c rows both).length := List.length_pos_of_mem (left_32 ok rows both)
  have hsuit : ∀ (pz : Str) (sk : List Nat) (fr : Bool), (∀ ch ∈ sk, ch ∈ left3 c rows both) → suitC c ⟨pz, sk, rows, fr, both⟩ = true := fun pz sk fr h => left_suit h
  have hchs : ∀ ch ∈ left3 c rows both, Ch ch := fun ch h => som_ch ch (left1_of (left2_of (left3_of h).1).1).1
  generalize left3 c rows both = LL at hL3 l95 l1 hsuit hchs
  walk_at "rd"
  refine And.intro (Nat.zero_le _) fun fo nfo => ?_
  generalize hg : upd G3 fo _ = G4
  have s4 := same_of hg nfo
  have v4 : G4 fo = some (.lst []) := at_of hg
  clear hg
  have hB4 := hB3.same s4
  have nfb : fo ≠ b := hB3.ne nfo
  have hL4 := s4 _ _ hL3
  have nLf : L3 ≠ fo := ne_of_none hL3 nfo
  have nLb : L3 ≠ b := by
    obtain ⟨bd, bm, bc, B, e⟩ := hB3
    intro z
    rw [z, e] at hL3
    have := congrArg List.length (HO.lst.inj (Option.some.inj hL3))
    rw [List.length_map] at this
    have e2 := HO.lst.inj (Option.some.inj hL3)
    match LL, e2, l1 with
    | x :: r, e2, _ => cases e2
  walk_at "rd"
  refine ⟨b, 4, n + 8, rfl, hB4, by decide, by decide, fun k G5 k0 k1 hB5 sb5 => ?_⟩
  have v5 : G5 fo = some (.lst []) := sb5 _ _ nfb v4
  have hL5 := sb5 _ _ nLb hL4
  obtain ⟨kn, rfl⟩ : ∃ kn : Nat, k = kn := ⟨k.toNat, by omega⟩
  walk_at "rd"
  refine r_one ⟨by omega, by omega⟩ ?_
  refine f_it (walk_range (lo := 0) (n := (kn : Int).toNat)) (fun i σ G => ∃ v7 v8, ∃ sk : List Nat, σ = [some (.ref b), some (.ref p), some (.bl rows), some (.bl free), some (.bl both), some (.ref L3), some (.ref fo), v7, v8] ∧ Two b fo G5 G ∧ BagAt G b (n + 8 - i) ∧ G fo = some (.lst (sk.map chV)) ∧ (∀ ch ∈ sk, ch ∈ LL) ∧ sk.Nodup ∧ sk.length ≤ i)
    ⟨none, none, [], rfl, fun _ _ _ _ h => h, hB5, v5, fun c hc => (nomatch hc), List.nodup_nil, Nat.le_refl _⟩ (fun _ _ _ _ _ => trivial) ?_ ?_
  · rintro i x σ G6 G6' hi ⟨v7, v8, sk, rfl, t6, hB6, hf6, hcs, hnd, hln⟩ ⟨rfl, rfl⟩
    have hL6 := t6 _ _ nLb nLf hL5
    have hi3 : i < 4 := by omega
    walk_at "rd"
    refine ⟨b, L3, _, n + 7 - i, rfl, ql hL6, nLb, hB6.mono (by omega), by rw [List.length_map]; exact l1, by rw [List.length_map]; omega, fun j y G7 hy hB7 sb7 => ?_⟩
    obtain ⟨ch, hc, rfl⟩ : ∃ ch, LL[j]? = some ch ∧ y = chV ch := by
      rw [List.getElem?_map] at hy
      cases e : LL[j]? with
      | none => rw [e] at hy; cases hy
      | some c => rw [e] at hy; exact ⟨c, rfl, (Option.some.inj hy).symm⟩
    have hcc : ch ∈ LL := List.mem_of_getElem? hc
    have hf7 := sb7 _ _ nfb hf6
    have t7 : Two b fo G5 G7 := t6.trans (Two.of sb7)
    walk_at "rd"
    refine r_ninL (ql hf7) rfl (flat_sk sk) ?_
    rw [inV_sk]
    by_cases hm : ch ∈ sk
    · rw [decide_eq_true hm]
      walk_at "rd"
      exact ⟨_, _, sk, rfl, t7, hB7.mono (by omega), hf7, hcs, hnd, by omega⟩
    · rw [decide_eq_false hm]
      walk_at "rd"
      refine ⟨r_tyL (ql hf7), ?_⟩
      walk_at "rd"
      refine r_append hf7 (by rw [List.length_map]; exact Nat.lt_of_le_of_lt (show sk.length ≤ 100 by omega) (by rw [sizeLine_eq]; decide)) ?_
      generalize hg : upd G7 fo _ = G8
      have b8 : SameB fo G7 G8 := sameB_of hg
      have v8 := at_of hg
      clear hg
      walk_at "rd"
      refine ⟨_, _, sk ++ [ch], rfl, t7.trans (Two.of2 b8), ?_, by rw [v8, List.map_append]; rfl, fun d hd => (List.mem_append.mp hd).elim (hcs d) fun z => by rw [List.mem_singleton.mp z]; exact hcc, ?_, by rw [List.length_append]; show sk.length + 1 ≤ i + 1; omega⟩
      · obtain ⟨bd, bm, bc, B, e⟩ := hB7.mono (show n + 8 - (i + 1) ≤ _ by omega)
        exact ⟨bd, bm, bc, B, b8 _ _ nfb.symm e⟩
      · rw [List.nodup_append]
        exact ⟨hnd, by simp, fun a ha d hd => by rw [List.mem_singleton.mp hd]; exact fun z => hm (z ▸ ha)⟩
  · rintro σ G6 ⟨v7, v8, sk, rfl, t6, hB6, hf6, hcs, hnd, hln⟩
    have hB6 : BagAt G6 b (n + 5) := hB6.mono (by omega)
    have lsk : sk.length ≤ 4 := by omega
    walk_at "rd"
    refine And.intro (by show 4 ≤ sizeLine; decide) fun P4 nP4 => ?_
    generalize hg : upd G6 P4 _ = G7
    have s7 := same_of hg nP4
    have v7 : G7 P4 = some (.lst ([Str.ofString "full", Str.ofString "none", Str.ofString "optional", Str.ofString "any"].map V.str)) := at_of hg
    clear hg
    walk_at "rd"
    refine ⟨b, P4, _, n + 4, rfl, ql v7, hB6.ne nP4, hB6.same s7, by decide, by decide, fun j y G8 hy hB8 sb8 => ?_⟩
    obtain ⟨pz, hpz, rfl⟩ : ∃ pz, padsOk pz ∧ y = .str pz := by
      match j, hy with
      | 0, hy => exact ⟨_, .inl rfl, (Option.some.inj hy).symm⟩
      | 1, hy => exact ⟨_, .inr (.inl rfl), (Option.some.inj hy).symm⟩
      | 2, hy => exact ⟨_, .inr (.inr (.inl rfl)), (Option.some.inj hy).symm⟩
      | 3, hy => exact ⟨_, .inr (.inr (.inr rfl)), (Option.some.inj hy).symm⟩
      | j + 4, hy => cases hy
    have hf8 := sb8 _ _ nfb (s7 _ _ hf6)
    walk_at "rd"
    refine r_join ?_ rfl
    walk_at "rd"
    refine ⟨_, fo, sk.map fun x => tx [x], rfl, rfl, .inl (ql ?_), ?_, ?_⟩
    · rw [List.map_map]
      exact hf8
    · rw [List.map_map, List.length_map]
      have e : ∀ sk : List Nat, (sk.map ((fun x => x.length) ∘ fun x => tx [x])).sum = sk.length := fun sk => by
        induction sk with
        | nil => rfl
        | cons x r ih =>
          rw [List.map_cons, List.sum_cons, ih, List.length_cons]
          show (tx [x]).length + r.length = _
          rw [tx_len]
          show 1 + r.length = r.length + 1
          omega
      rw [e]
      have e0 : (Str.ofString "").length = 0 := rfl
      rw [e0]
      omega
    rw [join_sk]
    walk_at "rd"
    refine And.intro (by show 5 ≤ sizeLine; decide) fun t nt => ?_
    have s9 := same_new (o := .tup [.str pz, .str (tx sk), .bl rows, .bl free, .bl both]) nt
    have back0 : SameB b H G4 := s1.trans (toB (s2.trans (sG.trans (sG3.trans s4))))
    have nfo0 : H fo = none := (s1.trans (toB (s2.trans (sG.trans sG3)))).free nfb nfo
    have back : SameB b H G8 := fun a o na ha => by
      have nfa : a ≠ fo := fun z => by
        rw [z, nfo0] at ha
        cases ha
      exact sb8 _ _ na (s7 _ _ (t6 _ _ na nfa (sb5 _ _ na (back0 _ _ na ha))))
    exact q t ⟨pz, sk, rows, free, both⟩ _ (back.trans (toB s9)) ((hB8.same s9).mono (by omega)) (back.free (hB8.ne nt) nt) upd_same ⟨hpz, fun ch h => hchs ch (hcs ch h), hnd, by show sk.length ≤ 100; omega⟩ (hsuit pz sk free hcs)
theorem ok_l_ruled (T : Txt K mg) : FnOk P w K mg base CX0 3 T.l_ruled_a T.l_ruled_d ["_law_bag_here", "_law_code_here"] (sp_l_ruled T) := by
  refine T.l_ruled_f.ok sc_l_ruled (fun vs H Q E h => len_l_ruled T vs H Q E h) (fun cdv A outer s H vs Q E hr h => ⟨t_l_ruled T, PSs.nox ?_, pure_l_ruled T vs H Q E h⟩)
  have hu := hu64 hr
  exact (pss_cons (ps_asg (pe_lc (own := [("_law_k", 7)]) (g := (gName 7)) (tt := tYes) rfl sc_l_ruled.nd (pi_range1 (by rfl) T.n_range (pa_cons pe_int pa_nil)) (blkOk_by (own := [("_law_k", 7)]) (N := ["_law_bag_here", "_law_code_here", "_law_rows_here", "_law_free", "_law_both", "_law_left", "_law_found", "_law_k", "_law_one"]) (sc := defScope s_l_ruled) (by decide +kernel)) (fun _ _ _ _ _ => (pg_name (i := 7) sc_l_ruled.nd rfl (.inl rfl))) (fun _ _ _ _ _ => pts_nil) (fun _ _ _ _ _ => (pe_cmpR (op_eqU hu) (pe_call (ok_l_take T) (hr.mono (by decide)) (by rfl) T.l_take_g T.l_take_f.kp T.l_take_b .nil pass0 (pa_cons (pv 0) (pa_cons pe_int pa_nil))) pe_int (nomark _)))) (pg_unl (n := 3) (by rfl) (pgs_cons (pg_name (i := 2) sc_l_ruled.nd rfl (.inl rfl)) (pgs_cons (pg_name (i := 3) sc_l_ruled.nd rfl (.inl rfl)) (pgs_cons (pg_name (i := 4) sc_l_ruled.nd rfl (.inl rfl)) pgs_nil)))))
      (pss_cons (ps_setLc (i := 5) (own := [("_law_one", 8)]) (g := (gName 8)) (tt := ((tAnd (tTest (tOp (rNinU K) (tVar 8) (tOp (rIx K) (tVar 1) (tC (.int 0))))) (tTest (tOp (rNeU K) (tVar 8) (tOp (rIx K) (tVar 1) (tC (.int 1)))))))) rfl sc_l_ruled.nd rfl rfl (sw_true rfl rfl rfl (by decide +kernel)) (pi_seqU (pe_op op_addU pe_str (pe_call0 (ok_l_all_signs T) (hr.mono (by decide)) (by rfl) T.l_all_signs_g T.l_all_signs_f.kp T.l_all_signs_b .nil pass0))) (blkOk_by (own := [("_law_one", 8)]) (N := ["_law_bag_here", "_law_code_here", "_law_rows_here", "_law_free", "_law_both", "_law_left", "_law_found", "_law_k", "_law_one"]) (sc := defScope s_l_ruled) (by decide +kernel)) (fun _ _ _ _ _ => (pg_name (i := 8) sc_l_ruled.nd rfl (.inl rfl))) (fun _ _ _ _ _ => pts_one (PW.pt (pw_and (pt_cmpR op_ninU (pv 8) (pe_ix ix_seq (pv 1) pe_int (fun _ _ => rfl)) (by rfl)) (pw_and1 (pt_cmpR (op_neU hu) (pv 8) (pe_ix ix_seq (pv 1) pe_int (fun _ _ => rfl)) (nomark _)))))) (fun _ _ _ _ _ => (pv 8)))
      (pss_cons (ps_if (pt_val (pv 4)) (pss_one (ps_setLc (i := 5) (own := [("_law_one", 8)]) (g := (gName 8)) (tt := ((tOr (tTest (tOp (rEqU K) (tCall (sp_l_other T) [] E0 (tCons (tVar 8) tNil)) (tC (.str (Str.ofString ""))))) (tTest (tOp (rNinU K) (tCall (sp_l_other T) [] E0 (tCons (tVar 8) tNil)) (tOp (rIx K) (tVar 1) (tC (.int 0)))))))) rfl sc_l_ruled.nd rfl rfl (sw_true rfl rfl rfl (by decide +kernel)) (pi_seqU (pv 5)) (blkOk_by (own := [("_law_one", 8)]) (N := ["_law_bag_here", "_law_code_here", "_law_rows_here", "_law_free", "_law_both", "_law_left", "_law_found", "_law_k", "_law_one"]) (sc := defScope s_l_ruled) (by decide +kernel)) (fun _ _ _ _ _ => (pg_name (i := 8) sc_l_ruled.nd rfl (.inl rfl))) (fun _ _ _ _ _ => pts_one (PW.pt (pw_or (pt_cmpR (op_eqU hu) (pe_call (ok_l_other T) (hr.mono (by decide)) (by rfl) T.l_other_g T.l_other_f.kp T.l_other_b .nil pass0 (pa_cons (pv 8) pa_nil)) pe_str (nomark _)) (pw_or1 (pt_cmpR op_ninU (pe_call (ok_l_other T) (hr.mono (by decide)) (by rfl) T.l_other_g T.l_other_f.kp T.l_other_b .nil pass0 (pa_cons (pv 8) pa_nil)) (pe_ix ix_seq (pv 1) pe_int (fun _ _ => rfl)) (by rfl)))))) (fun _ _ _ _ _ => (pv 8)))) pss_nil)
      (pss_cons (ps_if (PW.pt (pw_and (pt_val (pv 2)) (pw_and1 (pt_cmpR op_gt (pe_ix ix_seq (pv 1) pe_int (fun _ _ => rfl)) pe_int (nomark _))))) (pss_one (ps_setLc (i := 5) (own := [("_law_one", 8)]) (g := (gName 8)) (tt := ((tTest (tOp (rNeU K) (tVar 8) (tC (.str (Str.ofString "\n"))))))) rfl sc_l_ruled.nd rfl rfl (sw_true rfl rfl rfl (by decide +kernel)) (pi_seqU (pv 5)) (blkOk_by (own := [("_law_one", 8)]) (N := ["_law_bag_here", "_law_code_here", "_law_rows_here", "_law_free", "_law_both", "_law_left", "_law_found", "_law_k", "_law_one"]) (sc := defScope s_l_ruled) (by decide +kernel)) (fun _ _ _ _ _ => (pg_name (i := 8) sc_l_ruled.nd rfl (.inl rfl))) (fun _ _ _ _ _ => pts_one (pt_cmpR (op_neU hu) (pv 8) pe_str (nomark _))) (fun _ _ _ _ _ => (pv 8)))) pss_nil)
      (pss_cons (ps_set (i := 6) sc_l_ruled.nd rfl (.inl rfl) (pe_lst pa_nil))
      (pss_cons (ps_for PassesOwn.never rfl (pi_range1 (by rfl) T.n_range (pa_cons (pe_call (ok_l_take T) (hr.mono (by decide)) (by rfl) T.l_take_g T.l_take_f.kp T.l_take_b .nil pass0 (pa_cons (pv 0) (pa_cons pe_int pa_nil))) pa_nil)) (pg_name (i := 7) sc_l_ruled.nd rfl (.inl rfl)) (pss_cons (ps_set (i := 8) sc_l_ruled.nd rfl (.inl rfl) (pe_call (ok_l_of T) (hr.mono (by decide)) (by rfl) T.l_of_g T.l_of_f.kp T.l_of_b .nil pass0 (pa_cons (pv 0) (pa_cons (pv 5) pa_nil))))
      (pss_one (ps_if (pt_cmpR op_ninU (pv 8) (pv 6) (by rfl)) (pss_one (ps_expr (pe_bm PySem.F.plainAttrs_list PySem.F.slot_list_append PySem.F.type_list_append mt_append (pv 6) (pa_cons (pv 8) pa_nil)))) pss_nil))))
      (pss_one (ps_ret (pe_tup (pa_cons (pe_call (ok_l_of T) (hr.mono (by decide)) (by rfl) T.l_of_g T.l_of_f.kp T.l_of_b .nil pass0 (pa_cons (pv 0) (pa_cons (pe_lst (pa_cons pe_str (pa_cons pe_str (pa_cons pe_str (pa_cons pe_str pa_nil))))) pa_nil))) (pa_cons (pe_join pe_str (pv 6)) (pa_cons (pv 2) (pa_cons (pv 3) (pa_cons (pv 4) pa_nil))))))))))))))


end
section
variable {w : World} {K : PySem.W.Frag} {mg : Str → Option Value} {base : Heap}
local macro_rules | `(tactic| walk_at "hc") => `(tactic| first
  | assumption
  | ((refine CodeAt.same (H := ?xH) ?xb ?xa); (case xa => assumption); (case xb => walk_at "hc")))
local macro_rules | `(tactic| walk_at "rd0") => `(tactic| first
  | ((with_reducible refine r_get (a := ?xa) (c := ?xc) ?x1 ?x2 ?_); (case x1 => rfl); (case x2 => walk_at "hc"))
  | ((with_reducible refine r_methC (a := ?xa) (c := ?xc) ?x1 ?x2 ?x3 ?_); (case x1 => rfl); (case x2 => walk_at "hc"); (case x3 => (intro _ _ _; rfl)))
  | (with_reducible refine r_fmtB ?_)
  | (with_reducible refine r_dget ?_)
  | (with_reducible refine r_m0 ?_)
  | (with_reducible refine r_makeK ?_)
  | (with_reducible refine r_cval ?_)
  | (with_reducible refine r_sfld ?_)
  | (with_reducible refine r_isiI ?_)
  | (with_reducible refine r_isiIB ?_)
  | (with_reducible refine r_isiS ?_)
  | (with_reducible refine r_inID ?_))

def Byts (xs : List Int) : Prop := ∀ x ∈ xs, 0 ≤ x ∧ x ≤ 255
theorem at_int {xs : List Int} {i : Nat} {x : V} (h : (xs.map V.int)[i]? = some x) : ∃ z, xs[i]? = some z ∧ x = .int z := by
  rw [List.getElem?_map] at h
  cases e : xs[i]? with
  | none => rw [e] at h; cases h
  | some a => rw [e] at h; exact ⟨a, rfl, (Option.some.inj h).symm⟩
/-! ### data -/
def sp_l_data (T : Txt K mg) : Sp := fun vs H Q _ => ∃ (b : Addr) (k n : Nat), vs = [.ref b, .int k] ∧ BagAt H b (n + 1000) ∧ k ≤ 500 ∧
  ∀ p xs H', Byts xs → xs.length ≤ k → H p = none → H' p = some (.lst (xs.map V.int)) → SameB b H H' → BagAt H' b n → Q (.ref p) H'
theorem len_l_data (T : Txt K mg) (vs : List V) (H : Hp) (Q : VK) (E : XK) (h : sp_l_data T vs H Q E) : vs.length = 2 := by
  obtain ⟨_, _, _, rfl, _⟩ := h
  rfl
def t_l_data (T : Txt K mg) : TS := (tSeq (tAsg (tTup (tCons (tCall (sp_l_take T) [] E0 (tCons (tVar 0) (tCons (tC (.int 3)) tNil))) (tCons (tCall (sp_l_take T) [] E0 (tCons (tVar 0) (tCons (tOp (rAddU K) (tVar 1) (tC (.int 1))) tNil))) tNil))) (gTup K 2 (gCons (gName 2) (gCons (gName 3) gNil))))
    (tRet (tLc (iRng1 (tCons (tVar 3) tNil)) (gName 4) tYes (tIf (tTest (tOp (rEqU K) (tVar 2) (tC (.int 0)))) (tCall (sp_l_of T) [] E0 (tCons (tVar 0) (tCons (tLst (tCons (tC (.int 0)) (tCons (tC (.int 255)) (tCons (tC (.int 65)) (tCons (tC (.int 10)) (tCons (tC (.int 32)) tNil)))))) tNil))) (tCall (sp_l_take T) [] E0 (tCons (tVar 0) (tCons (tC (.int 256)) tNil)))) [4])))

theorem pure_l_data (T : Txt K mg) (vs : List V) (H : Hp) (Q : VK) (E : XK) (h : sp_l_data T vs H Q E) : t_l_data T { nx := fun _ H' => Q .non H', rt := Q } (start ["_law_bag_here", "_law_most", "_law_few", "_law_many", "_law_k"] vs) H := by
  obtain ⟨b, k, n, rfl, hB, hk, q⟩ := h
  unfold t_l_data
  walk_at "rd"
  refine ⟨b, 3, n + 999, rfl, hB, by decide, by decide, fun r H1 r0 r1 hB1 s1 => ?_⟩
  obtain ⟨few, rfl⟩ : ∃ j : Nat, r = j := ⟨r.toNat, by omega⟩
  walk_at "rd"
  refine ⟨b, (k : Int) + 1, n + 998, rfl, hB1, by omega, by omega, fun r2 H2 r20 r21 hB2 s2 => ?_⟩
  obtain ⟨cnt, rfl⟩ : ∃ j : Nat, r2 = j := ⟨r2.toNat, by omega⟩
  walk_at "rd"
  refine And.intro (by show 2 ≤ sizeLine; decide) ?_
  intro t nt
  generalize hg : upd _ t _ = H3
  have s3 := same_of hg nt
  have v3 := at_of hg
  clear hg
  have hB3 := hB2.same s3
  have S3 : SameB b H H3 := s1.trans (s2.trans (toB s3))
  walk_at "rd"
  refine r_one ⟨by omega, by omega⟩ fun D hD => ?_
  have nD : D ≠ b := hB3.ne hD
  refine c_it (walk_range (lo := 0) (n := cnt)) (fun i G => ∃ acc : List Int, acc.length = i ∧ Byts acc ∧ G D = some (.lst (acc.map V.int)) ∧ SameB b H3 G ∧ BagAt G b (n + (998 - i)))
    ⟨[], rfl, fun x hx => absurd hx List.not_mem_nil, upd_same, toB (same_new hD), hB3.same (same_new hD)⟩ (fun _ _ _ _ => trivial) ?_ ?_
  · rintro i x G G' hi ⟨acc, el, hd, hG, hsb, hb⟩ ⟨rfl, rfl⟩
    have fin : ∀ (z : Int) (G2 : Hp), 0 ≤ z → z ≤ 255 → BagAt G2 b (n + (998 - (i + 1))) → SameB b G' G2 → ∃ acc0, G2 D = some (.lst acc0) ∧ acc0.length < sizeLine ∧
        ∃ acc : List Int, acc.length = i + 1 ∧ Byts acc ∧ upd G2 D (.lst (acc0 ++ [.int z])) D = some (.lst (acc.map V.int)) ∧ SameB b H3 (upd G2 D (.lst (acc0 ++ [.int z]))) ∧ BagAt (upd G2 D (.lst (acc0 ++ [.int z]))) b (n + (998 - (i + 1))) := by
      intro z G2 z0 z1 hb3 hs3
      refine ⟨_, hs3 _ _ nD hG, by rw [List.length_map, el]; exact Nat.lt_of_lt_of_le hi (smallS (by omega)), acc ++ [z], by simp [el], ?_, by rw [upd_same, List.map_append]; rfl, ?_, hb3.upd nD⟩
      · intro y hy
        rcases List.mem_append.mp hy with h | h
        · exact hd y h
        · rw [List.mem_singleton.mp h]; exact ⟨z0, z1⟩
      · exact sameB_mut (hsb.trans hs3) hD
    walk_at "rd"
    refine ⟨rfl, ?_⟩
    walk_at "rd"
    refine r_iteD (fun h => ?_) (fun h => ?_)
    · walk_at "rd"
      walk_at "new"
      refine ⟨b, p, _, n + (998 - (i + 1)), rfl, ql hv, hb.ne np, (hb.same hs).mono (by omega), by decide, by decide, fun j x G2 hx hb3 hs3 => ?_⟩
      obtain ⟨z, rfl, hz⟩ : ∃ z : Int, x = .int z ∧ 0 ≤ z ∧ z ≤ 255 := by
        match j, hx with
        | 0, hx => exact ⟨0, (Option.some.inj hx).symm, by decide, by decide⟩
        | 1, hx => exact ⟨255, (Option.some.inj hx).symm, by decide, by decide⟩
        | 2, hx => exact ⟨65, (Option.some.inj hx).symm, by decide, by decide⟩
        | 3, hx => exact ⟨10, (Option.some.inj hx).symm, by decide, by decide⟩
        | 4, hx => exact ⟨32, (Option.some.inj hx).symm, by decide, by decide⟩
        | j + 5, hx => cases hx
      exact fin z G2 hz.1 hz.2 hb3 ((toB hs).trans hs3)
    · walk_at "rd"
      refine ⟨b, 256, n + (998 - (i + 1)), rfl, hb.mono (by omega), by decide, by decide, fun z G2 z0 z1 hb3 hs3 => ?_⟩
      exact fin z G2 z0 (by omega) hb3 hs3
  · rintro G ⟨acc, el, hd, hG, hs, hb⟩
    exact q D acc G hd (by omega) (S3.free nD hD) hG (S3.trans hs) (hb.mono (by omega))
theorem ok_l_data (T : Txt K mg) : FnOk P w K mg base CX0 3 T.l_data_a T.l_data_d ["_law_bag_here", "_law_most"] (sp_l_data T) := by
  refine T.l_data_f.ok sc_l_data (fun vs H Q E h => len_l_data T vs H Q E h) (fun cdv A outer s H vs Q E hr h => ⟨t_l_data T, PSs.nox ?_, pure_l_data T vs H Q E h⟩)
  have hu := hu64 hr
  exact (pss_cons (ps_asg (pe_tup (pa_cons (pe_call (ok_l_take T) (hr.mono (by decide)) (by rfl) T.l_take_g T.l_take_f.kp T.l_take_b .nil pass0 (pa_cons (pv 0) (pa_cons pe_int pa_nil))) (pa_cons (pe_call (ok_l_take T) (hr.mono (by decide)) (by rfl) T.l_take_g T.l_take_f.kp T.l_take_b .nil pass0 (pa_cons (pv 0) (pa_cons (pe_op op_addU (pv 1) pe_int) pa_nil))) pa_nil))) (pg_tup (by rfl) (pgs_cons (pg_name (i := 2) sc_l_data.nd rfl (.inr rfl)) (pgs_cons (pg_name (i := 3) sc_l_data.nd rfl (.inl rfl)) pgs_nil))))
      (pss_one (ps_ret (pe_lc (own := [("_law_k", 4)]) (g := (gName 4)) (tt := tYes) rfl sc_l_data.nd (pi_range1 (by rfl) T.n_range (pa_cons (pv 3) pa_nil)) (blkOk_by (own := [("_law_k", 4)]) (N := ["_law_bag_here", "_law_most", "_law_few", "_law_many", "_law_k"]) (sc := defScope s_l_data) (by decide +kernel)) (fun _ _ _ _ _ => (pg_name (i := 4) sc_l_data.nd rfl (.inl rfl))) (fun _ _ _ _ _ => pts_nil) (fun _ _ _ _ _ => (pe_ifExp (pt_cmpR (op_eqU hu) (pv 2) pe_int (nomark _)) (pe_call (ok_l_of T) (hr.mono (by decide)) (by rfl) T.l_of_g T.l_of_f.kp T.l_of_b .nil pass0 (pa_cons (pv 0) (pa_cons (pe_lst (pa_cons pe_int (pa_cons pe_int (pa_cons pe_int (pa_cons pe_int (pa_cons pe_int pa_nil)))))) pa_nil))) (pe_call (ok_l_take T) (hr.mono (by decide)) (by rfl) T.l_take_g T.l_take_f.kp T.l_take_b .nil pass0 (pa_cons (pv 0) (pa_cons pe_int pa_nil)))))))))


end
section
variable {w : World} {K : PySem.W.Frag} {mg : Str → Option Value} {base : Heap}
local macro_rules | `(tactic| walk_at "hc") => `(tactic| first
  | assumption
  | ((refine CodeAt.same (H := ?xH) ?xb ?xa); (case xa => assumption); (case xb => walk_at "hc")))
local macro_rules | `(tactic| walk_at "rd0") => `(tactic| first
  | ((with_reducible refine r_get (a := ?xa) (c := ?xc) ?x1 ?x2 ?_); (case x1 => rfl); (case x2 => walk_at "hc"))
  | ((with_reducible refine r_methC (a := ?xa) (c := ?xc) ?x1 ?x2 ?x3 ?_); (case x1 => rfl); (case x2 => walk_at "hc"); (case x3 => (intro _ _ _; rfl)))
  | (with_reducible refine r_fmtB ?_)
  | (with_reducible refine r_dget ?_)
  | (with_reducible refine r_m0 ?_)
  | (with_reducible refine r_makeK ?_)
  | (with_reducible refine r_cval ?_)
  | (with_reducible refine r_sfld ?_)
  | (with_reducible refine r_isiI ?_)
  | (with_reducible refine r_isiIB ?_)
  | (with_reducible refine r_isiS ?_)
  | (with_reducible refine r_inID ?_))

def chk {α : Type} (k : Nat) (l : List α) : List (List α) := (List.range ((l.length + k - 1) / k)).map fun i => (l.drop (i * k)).take k
theorem chk_nil {α : Type} {k : Nat} (h : 0 < k) : chk k ([] : List α) = [] := by
  unfold chk
  rw [List.length_nil, show (0 + k - 1) / k = 0 from Nat.div_eq_of_lt (by omega)]
  rfl
theorem chk_cons {α : Type} {k : Nat} (h : 0 < k) {l : List α} (hl : l ≠ []) : chk k l = l.take k :: chk k (l.drop k) := by
  have h1 : 1 ≤ l.length := Nat.pos_of_ne_zero fun z => hl (List.eq_nil_of_length_eq_zero z)
  have e1 : (l.length + k - 1) / k = (l.length - 1) / k + 1 := by
    rw [show l.length + k - 1 = (l.length - 1) + k by omega, Nat.add_div_right _ h]
  have e2 : ((l.drop k).length + k - 1) / k = (l.length - 1) / k := by
    rw [List.length_drop]
    by_cases e : k ≤ l.length
    · rw [show l.length - k + k - 1 = l.length - 1 by omega]
    · rw [show l.length - k + k - 1 = k - 1 by omega, Nat.div_eq_of_lt (show k - 1 < k by omega), Nat.div_eq_of_lt (show l.length - 1 < k by omega)]
  unfold chk
  rw [e1, e2, List.range_succ_eq_map, List.map_cons, List.map_map, Nat.zero_mul, List.drop_zero]
  congr 1
  refine List.map_congr_left fun i _ => ?_
  show (l.drop ((i + 1) * k)).take k = ((l.drop k).drop (i * k)).take k
  rw [List.drop_drop, Nat.add_mul, Nat.one_mul, Nat.add_comm k]
def bitL (n : Nat) : List Nat := [n / 128 % 2, n / 64 % 2, n / 32 % 2, n / 16 % 2, n / 8 % 2, n / 4 % 2, n / 2 % 2, n % 2]
def bitsL (xs : List Int) : List Nat := xs.flatMap fun x => bitL x.toNat
def b48 (l : List Nat) : List Nat := l.map (48 + ·)
theorem b48_app (a b : List Nat) : b48 (a ++ b) = b48 a ++ b48 b := List.map_append
theorem b48_take (a : List Nat) (k : Nat) : b48 (a.take k) = (b48 a).take k := by unfold b48; rw [List.map_take]
theorem b48_drop (a : List Nat) (k : Nat) : b48 (a.drop k) = (b48 a).drop k := by unfold b48; rw [List.map_drop]
theorem b48_bit (n : Nat) : b48 (bitL n) = b8 n := rfl
def numL (l : List Nat) : Nat := l.foldl (fun t b => 2 * t + b) 0
theorem num_bin (l : List Nat) : Bn.binNum (b48 l) = numL l := by
  have h : ∀ (l : List Nat) (a : Nat), (b48 l).foldl (fun a c => a * 2 + (c - 48)) a = l.foldl (fun t b => 2 * t + b) a := by
    intro l
    induction l with
    | nil => intro a; rfl
    | cons x l ih =>
      intro a
      show (b48 l).foldl _ (a * 2 + (48 + x - 48)) = l.foldl _ (2 * a + x)
      rw [ih, show a * 2 + (48 + x - 48) = 2 * a + x by omega]
  exact h l 0
def zf (c : CodeD) (L : Nat) : Nat := ((0 - (L : Int)).fmod (c.sb : Int)).toNat
def digsL (c : CodeD) (xs : List Int) : List Nat := (chk c.sb (bitsL xs ++ List.replicate (zf c (bitsL xs).length) 0)).map numL
theorem bits_len : ∀ xs : List Int, (bitsL xs).length = 8 * xs.length
  | [] => rfl
  | x :: xs => by
    have := bits_len xs
    show (bitL x.toNat ++ bitsL xs).length = _
    rw [List.length_append, this, List.length_cons]
    show 8 + _ = _
    omega
theorem zf_spec {c : CodeD} (h1 : 1 ≤ c.sb) (h6 : c.sb ≤ 6) (L : Nat) : zf c L = (c.sb - L % c.sb) % c.sb := by
  unfold zf
  have e : c.sb = 1 ∨ c.sb = 2 ∨ c.sb = 3 ∨ c.sb = 4 ∨ c.sb = 5 ∨ c.sb = 6 := by omega
  rw [Int.fmod_eq_emod_of_nonneg _ (by omega)]
  rcases e with e | e | e | e | e | e <;> rw [e] <;> omega
def rowsL (c : CodeD) (l : List Nat) : List Nat := if c.wd = 0 then l else KR.jn (chk c.wd l)
theorem join_jn : ∀ ps : List (List Nat), Str.join (tx [10]) (ps.map tx) = tx (KR.jn ps)
  | [] => rfl
  | [x] => rfl
  | x :: y :: r => by
    have ih := join_jn (y :: r)
    rw [List.map_cons, List.map_cons, join_cons_cons]
    rw [List.map_cons] at ih
    rw [ih, tx_app, tx_app, List.append_assoc]
    rfl
/-! ### what the law reckons itself -/
def sizeKvs : List (Key × V) := [(.inl 2, .int 1), (.inl 4, .int 2), (.inl 8, .int 3), (.inl 16, .int 4), (.inl 32, .int 5), (.inl 64, .int 6)]
theorem size_at {m : Nat} (h1 : 1 ≤ m) (h6 : m ≤ 6) : valV (mergeK [] sizeKvs) (.inl ((2 ^ m : Nat) : Int)) = some (V.int (m : Nat)) := by
  have e : m = 1 ∨ m = 2 ∨ m = 3 ∨ m = 4 ∨ m = 5 ∨ m = 6 := by omega
  rcases e with rfl | rfl | rfl | rfl | rfl | rfl <;> decide
def sp_l_size (T : Txt K mg) : Sp := fun vs H Q _ => ∃ (p : Addr) (z d : Str) (w m : Nat), vs = [.ref p] ∧ H p = some (.tup [.str z, .str d, .int w]) ∧ z.length = 2 ^ m ∧ 1 ≤ m ∧ m ≤ 6 ∧ ∀ H', Same H H' → Q (.int (m : Nat)) H'
theorem len_l_size (T : Txt K mg) (vs : List V) (H : Hp) (Q : VK) (E : XK) (h : sp_l_size T vs H Q E) : vs.length = 1 := by
  obtain ⟨_, _, _, _, _, rfl, _⟩ := h
  rfl
def t_l_size (T : Txt K mg) : TS := (tRet (tDGet (tDisp [((tC (.int 2)), (tC (.int 1))), ((tC (.int 4)), (tC (.int 2))), ((tC (.int 8)), (tC (.int 3))), ((tC (.int 16)), (tC (.int 4))), ((tC (.int 32)), (tC (.int 5))), ((tC (.int 64)), (tC (.int 6)))]) (tCB (rLenU K) (tCons (tOp (rIx K) (tVar 0) (tC (.int 0))) tNil))))

theorem pure_l_size (T : Txt K mg) (vs : List V) (H : Hp) (Q : VK) (E : XK) (h : sp_l_size T vs H Q E) : t_l_size T { nx := fun _ H' => Q .non H', rt := Q } (start ["_law_code_here"] vs) H := by
  obtain ⟨p, z, d, w, m, rfl, hp, hz, h1, h6, q⟩ := h
  unfold t_l_size
  walk_at "rd"
  intro D nD
  refine ⟨upd_same, sizeKvs, rfl, by decide, ?_⟩
  generalize hg : upd (upd H D _) D _ = Hn
  have hD : Hn D = some (.dK (mergeK [] sizeKvs)) := at_of hg
  have hs : Same H Hn := by rw [← hg]; exact same_mut (same_new nD) nD
  clear hg
  have hp1 := hs _ _ hp
  walk_at "rd"
  refine r_lenUS (smallS (by rw [hz]; exact Nat.le_trans (Nat.pow_le_pow_right (by decide) h6) (by decide))) ?_
  rw [hz]
  refine ⟨D, .int (m : Nat), rfl, ?_, q Hn hs⟩
  have := DGet.k (k := .inl ((2 ^ m : Nat) : Int)) hD
  rw [size_at h1 h6] at this
  exact this
theorem ok_l_size (T : Txt K mg) : FnOk P w K mg base CX0 1 T.l_size_a T.l_size_d ["_law_code_here"] (sp_l_size T) := by
  refine T.l_size_f.ok sc_l_size (fun vs H Q E h => len_l_size T vs H Q E h) (fun cdv A outer s H vs Q E hr h => ⟨t_l_size T, PSs.nox ?_, pure_l_size T vs H Q E h⟩)
  have hu := hu64 hr
  exact (pss_one (ps_ret (pe_dget (hu_of hr) (pe_disp (pps_cons pe_int pe_int (pps_cons pe_int pe_int (pps_cons pe_int pe_int (pps_cons pe_int pe_int (pps_cons pe_int pe_int (pps_cons pe_int pe_int pps_nil)))))) (by rfl) (by rfl) (fun h => nomatch h) (by decide)) (pe_callB c_lenU (by rfl) T.n_len (by decide +kernel) (pa_cons (pe_ix ix_seq (pv 0) pe_int (fun _ _ => rfl)) pa_nil)) (fun _ _ => rfl))))

def grpKvs : List (Key × V) := [(.inl 2, .int 8), (.inl 4, .int 4), (.inl 8, .int 8), (.inl 16, .int 2), (.inl 32, .int 8), (.inl 64, .int 4)]
theorem grp_at2 {m : Nat} (h1 : 1 ≤ m) (h6 : m ≤ 6) : valV (mergeK [] grpKvs) (.inl ((2 ^ m : Nat) : Int)) = some (V.int (grp m : Nat)) := by
  have e : m = 1 ∨ m = 2 ∨ m = 3 ∨ m = 4 ∨ m = 5 ∨ m = 6 := by omega
  rcases e with rfl | rfl | rfl | rfl | rfl | rfl <;> decide
def sp_l_group (T : Txt K mg) : Sp := fun vs H Q _ => ∃ (p : Addr) (z d : Str) (w m : Nat), vs = [.ref p] ∧ H p = some (.tup [.str z, .str d, .int w]) ∧ z.length = 2 ^ m ∧ 1 ≤ m ∧ m ≤ 6 ∧ ∀ H', Same H H' → Q (.int (grp m : Nat)) H'
theorem len_l_group (T : Txt K mg) (vs : List V) (H : Hp) (Q : VK) (E : XK) (h : sp_l_group T vs H Q E) : vs.length = 1 := by
  obtain ⟨_, _, _, _, _, rfl, _⟩ := h
  rfl
def t_l_group (T : Txt K mg) : TS := (tRet (tDGet (tDisp [((tC (.int 2)), (tC (.int 8))), ((tC (.int 4)), (tC (.int 4))), ((tC (.int 8)), (tC (.int 8))), ((tC (.int 16)), (tC (.int 2))), ((tC (.int 32)), (tC (.int 8))), ((tC (.int 64)), (tC (.int 4)))]) (tCB (rLenU K) (tCons (tOp (rIx K) (tVar 0) (tC (.int 0))) tNil))))

theorem pure_l_group (T : Txt K mg) (vs : List V) (H : Hp) (Q : VK) (E : XK) (h : sp_l_group T vs H Q E) : t_l_group T { nx := fun _ H' => Q .non H', rt := Q } (start ["_law_code_here"] vs) H := by
  obtain ⟨p, z, d, w, m, rfl, hp, hz, h1, h6, q⟩ := h
  unfold t_l_group
  walk_at "rd"
  intro D nD
  refine ⟨upd_same, grpKvs, rfl, by decide, ?_⟩
  generalize hg : upd (upd H D _) D _ = Hn
  have hD : Hn D = some (.dK (mergeK [] grpKvs)) := at_of hg
  have hs : Same H Hn := by rw [← hg]; exact same_mut (same_new nD) nD
  clear hg
  have hp1 := hs _ _ hp
  walk_at "rd"
  refine r_lenUS (smallS (by rw [hz]; exact Nat.le_trans (Nat.pow_le_pow_right (by decide) h6) (by decide))) ?_
  rw [hz]
  refine ⟨D, .int (grp m : Nat), rfl, ?_, q Hn hs⟩
  have := DGet.k (k := .inl ((2 ^ m : Nat) : Int)) hD
  rw [grp_at2 h1 h6] at this
  exact this
theorem ok_l_group (T : Txt K mg) : FnOk P w K mg base CX0 1 T.l_group_a T.l_group_d ["_law_code_here"] (sp_l_group T) := by
  refine T.l_group_f.ok sc_l_group (fun vs H Q E h => len_l_group T vs H Q E h) (fun cdv A outer s H vs Q E hr h => ⟨t_l_group T, PSs.nox ?_, pure_l_group T vs H Q E h⟩)
  have hu := hu64 hr
  exact (pss_one (ps_ret (pe_dget (hu_of hr) (pe_disp (pps_cons pe_int pe_int (pps_cons pe_int pe_int (pps_cons pe_int pe_int (pps_cons pe_int pe_int (pps_cons pe_int pe_int (pps_cons pe_int pe_int pps_nil)))))) (by rfl) (by rfl) (fun h => nomatch h) (by decide)) (pe_callB c_lenU (by rfl) T.n_len (by decide +kernel) (pa_cons (pe_ix ix_seq (pv 0) pe_int (fun _ _ => rfl)) pa_nil)) (fun _ _ => rfl))))


theorem bw (n w : Nat) : ((n : Int).fdiv (w : Int)).fmod 2 = ((n / w % 2 : Nat) : Int) := by
  rw [Int.fdiv_eq_ediv_of_nonneg _ (by omega), Int.fmod_eq_emod_of_nonneg _ (by decide), Int.natCast_emod, Int.natCast_ediv]
  rfl
def ws8 : List Nat := [128, 64, 32, 16, 8, 4, 2, 1]
theorem bit_ws (n : Nat) : bitL n = ws8.map fun w => n / w % 2 := by
  simp [bitL, ws8]
def sp_l_bits (T : Txt K mg) : Sp := fun vs H Q _ => ∃ (p : Addr) (xs : List Int), vs = [.ref p] ∧ H p = some (.lst (xs.map V.int)) ∧ xs.length ≤ 600 ∧ Byts xs ∧
  ∀ (r : Addr) H', Same H H' → H' r = some (.lst ((bitsL xs).map fun n : Nat => V.int n)) → Q (.ref r) H'
theorem len_l_bits (T : Txt K mg) (vs : List V) (H : Hp) (Q : VK) (E : XK) (h : sp_l_bits T vs H Q E) : vs.length = 1 := by
  obtain ⟨_, _, rfl, _⟩ := h
  rfl
theorem bits_snoc (xs : List Int) (x : Int) : bitsL (xs ++ [x]) = bitsL xs ++ bitL x.toNat := by
  unfold bitsL
  rw [List.flatMap_append]
  simp
def t_l_bits (T : Txt K mg) : TS := (tSeq (tAsg (tLst tNil) (gName 1))
    (tSeq (tFor (iSeqU K (tVar 0)) (gName 2) (tAsg (tOp (rAddU K) (tVar 1) (tLc (iSeqU K (tTup (tCons (tC (.int 128)) (tCons (tC (.int 64)) (tCons (tC (.int 32)) (tCons (tC (.int 16)) (tCons (tC (.int 8)) (tCons (tC (.int 4)) (tCons (tC (.int 2)) (tCons (tC (.int 1)) tNil)))))))))) (gName 3) tYes (tOp rModI (tOp rFdivI (tVar 2) (tVar 3)) (tC (.int 2))) [3])) (gName 1)))
    (tRet (tVar 1))))

theorem pure_l_bits (T : Txt K mg) (vs : List V) (H : Hp) (Q : VK) (E : XK) (h : sp_l_bits T vs H Q E) : t_l_bits T { nx := fun _ H' => Q .non H', rt := Q } (start ["_law_data_here", "_law_found", "_law_byte", "_law_worth"] vs) H := by
  obtain ⟨p, xs, rfl, hp, hl, hx, q⟩ := h
  unfold t_l_bits
  walk_at "rd"
  refine And.intro (Nat.zero_le _) ?_
  intro r0 nr0
  generalize hg : upd _ r0 _ = H1
  have s1 := same_of hg nr0
  have v1 := at_of hg
  clear hg
  have hp1 := s1 _ _ hp
  walk_at "rd"
  refine r_iseqL ?_
  walk_at "rd"
  refine ⟨p, rfl, ⟨_, ql hp1⟩, ?_⟩
  refine f_it (walk_list (K := K) (a := p) (xs := xs.map V.int)) (fun i σ G => ∃ (r : Addr), ∃ v2 v3, σ = [some (.ref p), some (.ref r), v2, v3] ∧ Same H G ∧ G r = some (.lst ((bitsL (xs.take i)).map fun n : Nat => V.int n)))
    ⟨r0, none, none, rfl, s1, v1⟩ (fun i σ G _ h => by
      obtain ⟨_, _, _, _, s, _⟩ := h
      exact ql (s _ _ hp)) ?_ ?_
  · rintro i x σ G G' hi ⟨r, v2, v3, rfl, sG, hr⟩ ⟨rfl, hx'⟩
    obtain ⟨z, hz, rfl⟩ := at_int hx'
    have bz := hx z (List.mem_of_getElem? hz)
    have hi' : i < xs.length := by rw [List.length_map] at hi; exact hi
    obtain ⟨n, rfl⟩ : ∃ n : Nat, z = n := ⟨z.toNat, by omega⟩
    walk_at "rd"
    refine r_iseqT ?_
    walk_at "rd"
    refine And.intro (by show 8 ≤ sizeLine; decide) ?_
    intro t nt
    generalize hgt : upd _ t _ = G1
    have st := same_of hgt nt
    have vt := at_of hgt
    clear hgt
    refine ⟨t, rfl, ⟨_, qt vt⟩, fun D nD => ?_⟩
    refine c_it (walk_tup (K := K) (a := t) (xs := [.int 128, .int 64, .int 32, .int 16, .int 8, .int 4, .int 2, .int 1])) (fun j G => G D = some (.lst (((ws8.take j).map fun w => n / w % 2).map fun m : Nat => V.int m)) ∧ Same G1 G) ⟨upd_same, same_new nD⟩
      (fun j G _ h => qt (h.2 _ _ vt)) ?_ ?_
    · rintro j y G2 G2' hj ⟨hD, sD⟩ ⟨rfl, hy⟩
      have hj8 : j < 8 := hj
      obtain ⟨wv, rfl, e8, w1, w2⟩ : ∃ wv : Nat, y = .int wv ∧ ws8[j]? = some wv ∧ 1 ≤ wv ∧ wv ≤ 128 := by
        match j, hy with
        | 0, hx => exact ⟨128, (Option.some.inj hx).symm, rfl, by decide, by decide⟩
        | 1, hx => exact ⟨64, (Option.some.inj hx).symm, rfl, by decide, by decide⟩
        | 2, hx => exact ⟨32, (Option.some.inj hx).symm, rfl, by decide, by decide⟩
        | 3, hx => exact ⟨16, (Option.some.inj hx).symm, rfl, by decide, by decide⟩
        | 4, hx => exact ⟨8, (Option.some.inj hx).symm, rfl, by decide, by decide⟩
        | 5, hx => exact ⟨4, (Option.some.inj hx).symm, rfl, by decide, by decide⟩
        | 6, hx => exact ⟨2, (Option.some.inj hx).symm, rfl, by decide, by decide⟩
        | 7, hx => exact ⟨1, (Option.some.inj hx).symm, rfl, by decide, by decide⟩
        | j + 8, hx => cases hx
      walk_at "rd"
      refine ⟨rfl, ?_⟩
      walk_at "rd"
      rw [bw]
      refine ⟨_, hD, ?_, ?_, same_mut sD nD⟩
      · rw [List.length_map, List.length_map, List.length_take]
        exact Nat.lt_of_le_of_lt (show min j ws8.length ≤ 8 by omega) (by rw [sizeLine_eq]; decide)
      · rw [upd_same, List.take_add_one, e8, List.map_append, List.map_append]
        rfl
    · rintro G2 ⟨hD, sD⟩
      have hr2 := sD _ _ (st _ _ hr)
      have e8 : ((ws8.take 8).map fun w => n / w % 2) = bitL n := (bit_ws n).symm
      have hD : G2 D = some (.lst ((bitL n).map fun m : Nat => V.int m)) := by rw [← e8]; exact hD
      have tl : (xs.take i).length ≤ 600 := by rw [List.length_take]; omega
      refine r_addUL hr2 hD (by rw [List.length_map, List.length_map, bits_len]; exact smallS (by show 8 * _ + 8 ≤ _; omega)) fun r2 nr2 => ?_
      rw [← List.map_append]
      walk_at "rd"
      refine ⟨r2, _, _, rfl, (sG.trans (st.trans sD)).trans (same_new nr2), ?_⟩
      rw [upd_same, List.take_add_one, hz]
      show _ = some (HO.lst ((bitsL (xs.take i ++ [((n : Nat) : Int)])).map _))
      rw [bits_snoc, Int.toNat_natCast]
  · rintro σ G ⟨r, v2, v3, rfl, sG, hr⟩
    rw [List.length_map, List.take_of_length_le (Nat.le_refl _)] at hr
    walk_at "rd"
    exact q r G sG hr
theorem ok_l_bits (T : Txt K mg) : FnOk P w K mg base CX0 1 T.l_bits_a T.l_bits_d ["_law_data_here"] (sp_l_bits T) := by
  refine T.l_bits_f.ok sc_l_bits (fun vs H Q E h => len_l_bits T vs H Q E h) (fun cdv A outer s H vs Q E hr h => ⟨t_l_bits T, PSs.nox ?_, pure_l_bits T vs H Q E h⟩)
  have hu := hu64 hr
  exact (pss_cons (ps_set (i := 1) sc_l_bits.nd rfl (.inl rfl) (pe_lst pa_nil))
      (pss_cons (ps_for PassesOwn.never rfl (pi_seqU (pv 0)) (pg_name (i := 2) sc_l_bits.nd rfl (.inr rfl)) (pss_one (ps_set (i := 1) sc_l_bits.nd rfl (.inl rfl) (pe_op op_addU (pv 1) (pe_lc (own := [("_law_worth", 3)]) (g := (gName 3)) (tt := tYes) rfl sc_l_bits.nd (pi_seqU (pe_tup (pa_cons pe_int (pa_cons pe_int (pa_cons pe_int (pa_cons pe_int (pa_cons pe_int (pa_cons pe_int (pa_cons pe_int (pa_cons pe_int pa_nil)))))))))) (blkOk_by (own := [("_law_worth", 3)]) (N := ["_law_data_here", "_law_found", "_law_byte", "_law_worth"]) (sc := defScope s_l_bits) (by decide +kernel)) (fun _ _ _ _ _ => (pg_name (i := 3) sc_l_bits.nd rfl (.inl rfl))) (fun _ _ _ _ _ => pts_nil) (fun _ _ _ _ _ => (pe_op op_modN (pe_op op_fdivN (pv 2) (pv 3)) pe_int)))))))
      (pss_one (ps_ret (pv 1)))))

theorem at_nat {xs : List Nat} {i : Nat} {x : V} (h : (xs.map fun n : Nat => V.int n)[i]? = some x) : ∃ z : Nat, xs[i]? = some z ∧ x = .int z := by
  rw [List.getElem?_map] at h
  cases e : xs[i]? with
  | none => rw [e] at h; cases h
  | some a => rw [e] at h; exact ⟨a, rfl, (Option.some.inj h).symm⟩
def sp_l_number (T : Txt K mg) : Sp := fun vs H Q _ => ∃ (p : Addr) (ns : List Nat), vs = [.ref p] ∧ H p = some (.lst (ns.map fun n : Nat => V.int n)) ∧ Q (.int (numL ns : Nat)) H
theorem len_l_number (T : Txt K mg) (vs : List V) (H : Hp) (Q : VK) (E : XK) (h : sp_l_number T vs H Q E) : vs.length = 1 := by
  obtain ⟨_, _, rfl, _⟩ := h
  rfl
theorem num_snoc (l : List Nat) (x : Nat) : numL (l ++ [x]) = 2 * numL l + x := by
  unfold numL
  rw [List.foldl_append]
  rfl
def t_l_number (T : Txt K mg) : TS := (tSeq (tAsg (tC (.int 0)) (gName 1))
    (tSeq (tFor (iSeqU K (tVar 0)) (gName 2) (tAsg (tOp (rAddU K) (tOp (rMulU K) (tC (.int 2)) (tVar 1)) (tVar 2)) (gName 1)))
    (tRet (tVar 1))))

theorem pure_l_number (T : Txt K mg) (vs : List V) (H : Hp) (Q : VK) (E : XK) (h : sp_l_number T vs H Q E) : t_l_number T { nx := fun _ H' => Q .non H', rt := Q } (start ["_law_bits_here", "_law_total", "_law_bit"] vs) H := by
  obtain ⟨p, ns, rfl, hp, q⟩ := h
  unfold t_l_number
  walk_at "rd"
  refine r_iseqL ?_
  walk_at "rd"
  refine ⟨p, rfl, ⟨_, ql hp⟩, ?_⟩
  refine f_it (walk_list (K := K) (a := p) (xs := ns.map fun n : Nat => V.int n)) (fun i σ G => ∃ v2, σ = [some (.ref p), some (.int (numL (ns.take i) : Nat)), v2] ∧ G = H) ⟨none, rfl, rfl⟩ (fun i σ G _ h => by
    obtain ⟨_, _, rfl⟩ := h
    exact ql hp) ?_ ?_
  · rintro i x σ G G' hi ⟨v2, rfl, rfl⟩ ⟨rfl, hx'⟩
    obtain ⟨z, hz, rfl⟩ := at_nat hx'
    walk_at "rd"
    refine ⟨some (.int z), ?_, rfl⟩
    rw [List.take_add_one, hz]
    show _ = [_, some (V.int (numL (ns.take i ++ [z]) : Nat)), _]
    rw [num_snoc]
    rfl
  · rintro σ G ⟨v2, rfl, rfl⟩
    rw [List.length_map, List.take_of_length_le (Nat.le_refl _)]
    walk_at "rd"
    exact q
theorem ok_l_number (T : Txt K mg) : FnOk P w K mg base CX0 1 T.l_number_a T.l_number_d ["_law_bits_here"] (sp_l_number T) := by
  refine T.l_number_f.ok sc_l_number (fun vs H Q E h => len_l_number T vs H Q E h) (fun cdv A outer s H vs Q E hr h => ⟨t_l_number T, PSs.nox ?_, pure_l_number T vs H Q E h⟩)
  have hu := hu64 hr
  exact (pss_cons (ps_set (i := 1) sc_l_number.nd rfl (.inl rfl) pe_int)
      (pss_cons (ps_for PassesOwn.never rfl (pi_seqU (pv 0)) (pg_name (i := 2) sc_l_number.nd rfl (.inl rfl)) (pss_one (ps_set (i := 1) sc_l_number.nd rfl (.inl rfl) (pe_op op_addU (pe_op op_mulU pe_int (pv 1)) (pv 2)))))
      (pss_one (ps_ret (pv 1)))))

theorem rgc_n {L m : Nat} (hL : L ≤ 100000) (h1 : 1 ≤ m) (h2 : m ≤ 100000) : RgC 0 (L : Int) (m : Int) ((L + m - 1) / m) := by
  have e : Builtin.Range.rangeSize 0 (L : Int) (m : Int) = (((L + m - 1) / m : Nat) : Int) := by
    unfold Builtin.Range.rangeSize
    rw [if_pos (show (m : Int) > 0 by omega)]
    by_cases h0 : L = 0
    · subst h0
      rw [if_neg (by decide), Nat.div_eq_of_lt (by omega)]
      rfl
    · rw [if_pos (show (0 : Int) < (L : Int) by omega)]
      have e1 : (L + m - 1) / m = (L - 1) / m + 1 := by
        rw [show L + m - 1 = (L - 1) + m by omega, Nat.add_div_right _ h1]
      rw [e1, show ((L : Int) - 0 - 1) = ((L - 1 : Nat) : Int) by omega]
      norm_cast
  have l := rangeSize_toNat_le 0 (L : Int) (m : Int)
  rw [e, Int.toNat_natCast] at l
  generalize (L + m - 1) / m = n at e l ⊢
  refine ⟨by omega, by omega, ?_, e⟩
  unfold Builtin.Range.small
  rw [e]
  simp only [Builtin.Range.rangeFitsLong, Bool.and_eq_true, Bool.or_eq_true, decide_eq_true_eq, beq_iff_eq]
  refine ⟨by omega, .inr ?_⟩
  rw [if_pos (show (m : Int) > 0 by omega)]
  simp only [Bool.and_eq_true, decide_eq_true_eq]
  omega
theorem r_rng3 {tr : TA} {σ : S} {H : Hp} {R : It → Hp → Prop} (h : tr σ H fun vs H1 => ∃ (i j c : Int) (n : Nat), vs = [.int i, .int j, .int c] ∧ RgC i j c n ∧ R (Itc i c n) H1) : iRng3 tr σ H R := h
theorem cutV_mid {l : List V} {a m : Nat} (h : a ≤ l.length) : cutV l (some (a : Int)) (some ((a : Int) + (m : Int))) = (l.drop a).take m := by
  unfold cutV
  rw [sIx_le_nat rfl h, show (a : Int) + (m : Int) = ((a + m : Nat) : Int) by omega, HT.sIx_nat]
  by_cases e : a + m ≤ l.length
  · rw [show min (a + m) l.length - a = m by omega]
  · rw [show min (a + m) l.length - a = l.length - a by omega, List.take_of_length_le (by rw [List.length_drop]; omega), List.take_of_length_le (by rw [List.length_drop]; omega)]
theorem turns_le {L m i : Nat} (h1 : 1 ≤ m) (hi : i < (L + m - 1) / m) : i * m ≤ L := by
  have h := Nat.div_mul_le_self (L + m - 1) m
  have h2 : (i + 1) * m ≤ (L + m - 1) / m * m := Nat.mul_le_mul_right _ hi
  rw [Nat.add_mul, Nat.one_mul] at h2
  omega
theorem zeros (k : Nat) : (List.replicate k [V.int 0]).flatten = (List.replicate k (0 : Nat)).map fun n : Nat => V.int n := by
  induction k with
  | zero => rfl
  | succ k ih => rw [List.replicate_succ, List.flatten_cons, ih]; rfl
def sp_l_digits (T : Txt K mg) : Sp := fun vs H Q _ => ∃ (p d : Addr) (c : CodeD) (xs : List Int), vs = [.ref p, .ref d] ∧ TupC H p c ∧ c.Ok ∧ H d = some (.lst (xs.map V.int)) ∧ xs.length ≤ 600 ∧ Byts xs ∧
  ∀ (r : Addr) H', Same H H' → H r = none → H' r = some (.lst ((digsL c xs).map fun n : Nat => V.int n)) → Q (.ref r) H'
theorem len_l_digits (T : Txt K mg) (vs : List V) (H : Hp) (Q : VK) (E : XK) (h : sp_l_digits T vs H Q E) : vs.length = 2 := by
  obtain ⟨_, _, _, _, rfl, _⟩ := h
  rfl
def t_l_digits (T : Txt K mg) : TS := (tSeq (tAsg (tTup (tCons (tCall (sp_l_bits T) [] E0 (tCons (tVar 1) tNil)) (tCons (tCall (sp_l_size T) [] E0 (tCons (tVar 0) tNil)) tNil))) (gTup K 2 (gCons (gName 2) (gCons (gName 3) gNil))))
    (tSeq (tAsg (tOp (rAddU K) (tVar 2) (tOp (rMulU K) (tLst (tCons (tC (.int 0)) tNil)) (tOp rModI (tOp rSubI (tC (.int 0)) (tCB (rLenU K) (tCons (tVar 2) tNil))) (tVar 3)))) (gName 2))
    (tRet (tLc (iRng3 (tCons (tC (.int 0)) (tCons (tCB (rLenU K) (tCons (tVar 2) tNil)) (tCons (tVar 3) tNil)))) (gName 4) tYes (tCall (sp_l_number T) [] E0 (tCons (tSl (rSlU K) (tVar 2) (tPart (tVar 4)) (tPart (tOp (rAddU K) (tVar 4) (tVar 3)))) tNil)) [4]))))

theorem pure_l_digits (T : Txt K mg) (vs : List V) (H : Hp) (Q : VK) (E : XK) (h : sp_l_digits T vs H Q E) : t_l_digits T { nx := fun _ H' => Q .non H', rt := Q } (start ["_law_code_here", "_law_data_here", "_law_bits_here", "_law_size_here", "_law_at"] vs) H := by
  obtain ⟨p, d, c, xs, rfl, hp, ok, hd, hl, hx, q⟩ := h
  have h1 := ok.b1
  have h6 := ok.b6
  unfold TupC at hp
  unfold t_l_digits
  walk_at "rd"
  refine ⟨d, xs, rfl, hd, hl, hx, fun r H1 s1 hr => ?_⟩
  walk_at "rd"
  refine ⟨p, c.sg, c.pd, c.wd, c.sb, rfl, s1 _ _ hp, ok.ln, h1, h6, fun H2 s2 => ?_⟩
  have hr2 := s2 _ _ hr
  walk_at "rd"
  refine And.intro (by show 2 ≤ sizeLine; decide) ?_
  intro t nt
  generalize hgt : upd _ t _ = H3
  have s3 := same_of hgt nt
  have v3 := at_of hgt
  clear hgt
  have hr3 := s3 _ _ hr2
  walk_at "rd"
  refine And.intro (by show 1 ≤ sizeLine; decide) ?_
  intro l0 nl0
  generalize hg4 : upd _ l0 _ = H4
  have s4 := same_of hg4 nl0
  have v4 := at_of hg4
  clear hg4
  have hr4 := s4 _ _ hr3
  have bl := bits_len xs
  walk_at "rd"
  rw [List.length_map]
  have hz : ((0 - (((bitsL xs).length : Nat) : Int)).fmod (c.sb : Int)).toNat = zf c (bitsL xs).length := rfl
  have zb := zf_spec h1 h6 (bitsL xs).length
  have zlt : (c.sb - (bitsL xs).length % c.sb) % c.sb < c.sb := Nat.mod_lt _ h1
  generalize hk : (0 - (((bitsL xs).length : Nat) : Int)).fmod (c.sb : Int) = k at hz
  have hk0 : 0 ≤ k := by rw [← hk]; exact Int.fmod_nonneg_of_pos _ (by omega)
  have hk1 : k < c.sb := by rw [← hk]; exact Int.fmod_lt_of_pos _ (by omega)
  refine r_mulUL v4 ⟨by omega, by omega⟩ (smallS (by simp only [List.length_cons, List.length_nil]; omega)) fun l1 nl1 => ?_
  generalize hg5 : upd _ l1 _ = H5
  have s5 := same_of hg5 nl1
  have v5 := at_of hg5
  clear hg5
  rw [zeros, hz] at v5
  have hr5 := s5 _ _ hr4
  refine r_addUL hr5 v5 (by rw [List.length_map, List.length_map, List.length_replicate]; exact smallS (by omega)) fun l2 nl2 => ?_
  rw [← List.map_append]
  generalize hg6 : upd _ l2 _ = H6
  have s6 := same_of hg6 nl2
  have v6 := at_of hg6
  clear hg6
  have hLl : (bitsL xs ++ List.replicate (zf c (bitsL xs).length) 0).length ≤ 5000 := by rw [List.length_append, List.length_replicate]; omega
  have dg : digsL c xs = (chk c.sb (bitsL xs ++ List.replicate (zf c (bitsL xs).length) 0)).map numL := rfl
  generalize hB : bitsL xs ++ List.replicate (zf c (bitsL xs).length) 0 = B at v6 hLl dg
  have S6 : Same H H6 := s1.trans (s2.trans (s3.trans (s4.trans (s5.trans s6))))
  walk_at "rd"
  refine r_rng3 ?_
  walk_at "rd"
  rw [List.length_map]
  refine ⟨0, _, _, _, rfl, rgc_n (L := B.length) (m := c.sb) (by omega) h1 (by omega), fun D nD => ?_⟩
  refine c_it walk_rangeC (fun i G => G D = some (.lst (((List.range i).map fun j => numL ((B.drop (j * c.sb)).take c.sb)).map fun n : Nat => V.int n)) ∧ Same H6 G) ⟨upd_same, same_new nD⟩ (fun _ _ _ _ => trivial) ?_ ?_
  · rintro i x G G' hi ⟨hD, sG⟩ ⟨rfl, rfl⟩
    have v6' := sG _ _ v6
    have him := turns_le h1 hi
    walk_at "rd"
    refine ⟨rfl, ?_⟩
    walk_at "rd"
    refine r_slUL (ql v6') ?_
    intro l3 nl3
    rw [show (0 : Int) + ((i : Nat) : Int) * (c.sb : Int) = ((i * c.sb : Nat) : Int) by rw [Int.zero_add, Int.natCast_mul], cutV_mid (by rw [List.length_map]; exact him), ← List.map_drop, ← List.map_take]
    generalize hg7 : upd _ l3 _ = H7
    have s7 := same_of hg7 nl3
    have v7 := at_of hg7
    clear hg7
    walk_at "rd"
    refine ⟨l3, _, rfl, v7, ?_⟩
    refine ⟨_, s7 _ _ hD, ?_, ?_, same_mut (sG.trans s7) nD⟩
    · rw [List.length_map, List.length_map, List.length_range]
      have : i ≤ i * c.sb := Nat.le_mul_of_pos_right _ h1
      exact Nat.lt_of_le_of_lt (show i ≤ 5000 by omega) (by rw [sizeLine_eq]; decide)
    · rw [upd_same, List.range_succ, List.map_append, List.map_append]
      rfl
  · rintro G ⟨hD, sG⟩
    refine q D G (S6.trans sG) (S6.free nD) ?_
    have e : (chk c.sb B).map numL = (List.range ((B.length + c.sb - 1) / c.sb)).map fun j => numL ((B.drop (j * c.sb)).take c.sb) := by
      unfold chk
      rw [List.map_map]
      rfl
    rw [dg, e]
    exact hD
theorem ok_l_digits (T : Txt K mg) : FnOk P w K mg base CX0 2 T.l_digits_a T.l_digits_d ["_law_code_here", "_law_data_here"] (sp_l_digits T) := by
  refine T.l_digits_f.ok sc_l_digits (fun vs H Q E h => len_l_digits T vs H Q E h) (fun cdv A outer s H vs Q E hr h => ⟨t_l_digits T, PSs.nox ?_, pure_l_digits T vs H Q E h⟩)
  have hu := hu64 hr
  exact (pss_cons (ps_asg (pe_tup (pa_cons (pe_call (ok_l_bits T) (hr.mono (by decide)) (by rfl) T.l_bits_g T.l_bits_f.kp T.l_bits_b .nil pass0 (pa_cons (pv 1) pa_nil)) (pa_cons (pe_call (ok_l_size T) (hr.mono (by decide)) (by rfl) T.l_size_g T.l_size_f.kp T.l_size_b .nil pass0 (pa_cons (pv 0) pa_nil)) pa_nil))) (pg_tup (by rfl) (pgs_cons (pg_name (i := 2) sc_l_digits.nd rfl (.inr rfl)) (pgs_cons (pg_name (i := 3) sc_l_digits.nd rfl (.inr rfl)) pgs_nil))))
      (pss_cons (ps_set (i := 2) sc_l_digits.nd rfl (.inr rfl) (pe_op op_addU (pv 2) (pe_op op_mulU (pe_lst (pa_cons pe_int pa_nil)) (pe_op op_modN (pe_op op_sub pe_int (pe_callB c_lenU (by rfl) T.n_len (by decide +kernel) (pa_cons (pv 2) pa_nil))) (pv 3)))))
      (pss_one (ps_ret (pe_lc (own := [("_law_at", 4)]) (g := (gName 4)) (tt := tYes) rfl sc_l_digits.nd (pi_range3 (by rfl) T.n_range (pa_cons pe_int (pa_cons (pe_callB c_lenU (by rfl) T.n_len (by decide +kernel) (pa_cons (pv 2) pa_nil)) (pa_cons (pv 3) pa_nil)))) (blkOk_by (own := [("_law_at", 4)]) (N := ["_law_code_here", "_law_data_here", "_law_bits_here", "_law_size_here", "_law_at"]) (sc := defScope s_l_digits) (by decide +kernel)) (fun _ _ _ _ _ => (pg_name (i := 4) sc_l_digits.nd rfl (.inl rfl))) (fun _ _ _ _ _ => pts_nil) (fun _ _ _ _ _ => (pe_call (ok_l_number T) (hr.mono (by decide)) (by rfl) T.l_number_g T.l_number_f.kp T.l_number_b .nil pass0 (pa_cons (pe_slice sl_U (pv 2) (po_some (pv 4)) (po_some (pe_op op_addU (pv 4) (pv 3)))) pa_nil))))))))

theorem cell_map (l : List Nat) : (l.map fun ch => V.str (tx [ch])) = (l.map fun ch => tx [ch]).map V.str := by rw [List.map_map]; rfl
theorem sing_flat : ∀ l : List Nat, (l.map fun c => [c]).flatten = l
  | [] => rfl
  | y :: r => by rw [List.map_cons, List.flatten_cons, sing_flat r]; rfl
theorem join_ch (l : List Nat) : Txt.join (Str.ofString "") (l.map fun c => tx [c]) = tx l := by
  have := txt_join_tx (l.map fun c => [c])
  rw [List.map_map] at this
  have e : (tx ∘ fun c => [c]) = fun c : Nat => tx [c] := rfl
  rw [e] at this
  rw [this, sing_flat]
def sp_l_rows (T : Txt K mg) : Sp := fun vs H Q _ => ∃ (p r : Addr) (c : CodeD) (l : List Nat), vs = [.ref p, .ref r] ∧ TupC H p c ∧ H r = some (.lst (l.map fun ch => V.str (tx [ch]))) ∧ l.length ≤ 6000 ∧ c.wd ≤ 76 ∧ ∀ H', Same H H' → Q (.str (tx (rowsL c l))) H'
theorem len_l_rows (T : Txt K mg) (vs : List V) (H : Hp) (Q : VK) (E : XK) (h : sp_l_rows T vs H Q E) : vs.length = 2 := by
  obtain ⟨_, _, _, _, rfl, _⟩ := h
  rfl
def t_l_rows (T : Txt K mg) : TS := (tSeq (tIfS (tTest (tOp (rEqU K) (tOp (rIx K) (tVar 0) (tC (.int 2))) (tC (.int 0)))) (tRet (tJoinU K (tC (.str (Str.ofString ""))) (tVar 1))) tNext)
    (tRet (tJoinU K (tC (.str (Str.ofString "\n"))) (tLc (iRng3 (tCons (tC (.int 0)) (tCons (tCB (rLenU K) (tCons (tVar 1) tNil)) (tCons (tOp (rIx K) (tVar 0) (tC (.int 2))) tNil)))) (gName 2) tYes (tJoinU K (tC (.str (Str.ofString ""))) (tSl (rSlU K) (tVar 1) (tPart (tVar 2)) (tPart (tOp (rAddU K) (tVar 2) (tOp (rIx K) (tVar 0) (tC (.int 2))))))) [2]))))

theorem pure_l_rows (T : Txt K mg) (vs : List V) (H : Hp) (Q : VK) (E : XK) (h : sp_l_rows T vs H Q E) : t_l_rows T { nx := fun _ H' => Q .non H', rt := Q } (start ["_law_code_here", "_law_row", "_law_at"] vs) H := by
  obtain ⟨p, r, c, l, rfl, hp, hr, hl, hw, q⟩ := h
  unfold TupC at hp
  unfold rowsL at q
  unfold t_l_rows
  walk_at "rd"
  refine r_iteD (fun h => ?_) (fun h => ?_)
  · rw [if_pos (by omega)] at q
    walk_at "rd"
    refine r_join ?_ rfl
    walk_at "rd"
    refine ⟨_, r, l.map fun ch => tx [ch], rfl, rfl, .inl (ql (by rw [← cell_map]; exact hr)), ?_, ?_⟩
    · have e0 : (Str.ofString "").length = 0 := rfl
      rw [e0, Nat.mul_zero, Nat.add_zero, sum_one]
      omega
    rw [join_ch]
    exact q H (Same.refl H)
  · have w0 : 0 < c.wd := by omega
    rw [if_neg (by omega)] at q
    walk_at "rd"
    refine r_join ?_ rfl
    walk_at "rd"
    refine r_rng3 ?_
    walk_at "rd"
    rw [List.length_map]
    refine ⟨0, _, _, _, rfl, rgc_n (L := l.length) (m := c.wd) (by omega) w0 (by omega), fun D nD => ?_⟩
    refine c_it walk_rangeC (fun i G => G D = some (.lst (((List.range i).map fun j => (l.drop (j * c.wd)).take c.wd).map fun ch => V.str (tx ch))) ∧ Same H G) ⟨upd_same, same_new nD⟩ (fun _ _ _ _ => trivial) ?_ ?_
    · rintro i x G G' hi ⟨hD, sG⟩ ⟨rfl, rfl⟩
      have hr2 := sG _ _ hr
      have hp2 := sG _ _ hp
      have him := turns_le w0 hi
      walk_at "rd"
      refine ⟨rfl, ?_⟩
      refine r_join ?_ rfl
      walk_at "rd"
      refine r_slUL (ql hr2) ?_
      intro l3 nl3
      rw [show (0 : Int) + ((i : Nat) : Int) * (c.wd : Int) = ((i * c.wd : Nat) : Int) by rw [Int.zero_add, Int.natCast_mul], cutV_mid (by rw [List.length_map]; exact him), ← List.map_drop, ← List.map_take]
      generalize hg7 : upd _ l3 _ = H7
      have s7 := same_of hg7 nl3
      have v7 := at_of hg7
      clear hg7
      refine ⟨_, l3, ((l.drop (i * c.wd)).take c.wd).map fun ch => tx [ch], rfl, rfl, .inl (ql (by rw [← cell_map]; exact v7)), ?_, ?_⟩
      · have e0 : (Str.ofString "").length = 0 := rfl
        rw [e0, Nat.mul_zero, Nat.add_zero, sum_one, List.length_take, List.length_drop]
        omega
      rw [join_ch]
      refine ⟨_, s7 _ _ hD, ?_, ?_, same_mut (sG.trans s7) nD⟩
      · rw [List.length_map, List.length_map, List.length_range]
        have : i ≤ i * c.wd := Nat.le_mul_of_pos_right _ w0
        exact Nat.lt_of_le_of_lt (show i ≤ 6000 by omega) (by rw [sizeLine_eq]; decide)
      · rw [upd_same, List.range_succ, List.map_append, List.map_append]
        rfl
    · rintro G ⟨hD, sG⟩
      have hD : G D = some (.lst (((chk c.wd l).map tx).map V.str)) := by
        rw [List.map_map]
        exact hD
      have chl : (chk c.wd l).length ≤ 6100 := by
        unfold chk
        rw [List.length_map, List.length_range]
        have h1 := Nat.div_le_self (l.length + c.wd - 1) c.wd
        omega
      have che : ∀ ch ∈ chk c.wd l, ch.length ≤ 76 := fun ch hch => by
        unfold chk at hch
        obtain ⟨j, _, rfl⟩ := List.mem_map.mp hch
        rw [List.length_take]
        omega
      have sl := sum_le _ che
      have b1 : (chk c.wd l).length * 76 ≤ 6100 * 76 := Nat.mul_le_mul_right _ chl
      refine ⟨_, D, (chk c.wd l).map tx, rfl, rfl, .inl (ql hD), ?_, ?_⟩
      · have e1 : (Str.ofString "\n").length = 1 := rfl
        rw [e1, List.length_map]
        omega
      have ej : Txt.join (tx [10]) ((chk c.wd l).map tx) = tx (KR.jn (chk c.wd l)) := (PySem.StrLaws.glued_eq_join _ _).trans (join_jn _)
      rw [nl_tx, ej]
      exact q G sG
theorem ok_l_rows (T : Txt K mg) : FnOk P w K mg base CX0 1 T.l_rows_a T.l_rows_d ["_law_code_here", "_law_row"] (sp_l_rows T) := by
  refine T.l_rows_f.ok sc_l_rows (fun vs H Q E h => len_l_rows T vs H Q E h) (fun cdv A outer s H vs Q E hr h => ⟨t_l_rows T, PSs.nox ?_, pure_l_rows T vs H Q E h⟩)
  have hu := hu64 hr
  exact (pss_cons (ps_if (pt_cmpR (op_eqU hu) (pe_ix ix_seq (pv 0) pe_int (fun _ _ => rfl)) pe_int (nomark _)) (pss_one (ps_ret (pe_join pe_str (pv 1)))) pss_nil)
      (pss_one (ps_ret (pe_join pe_str (pe_lc (own := [("_law_at", 2)]) (g := (gName 2)) (tt := tYes) rfl sc_l_rows.nd (pi_range3 (by rfl) T.n_range (pa_cons pe_int (pa_cons (pe_callB c_lenU (by rfl) T.n_len (by decide +kernel) (pa_cons (pv 1) pa_nil)) (pa_cons (pe_ix ix_seq (pv 0) pe_int (fun _ _ => rfl)) pa_nil)))) (blkOk_by (own := [("_law_at", 2)]) (N := ["_law_code_here", "_law_row", "_law_at"]) (sc := defScope s_l_rows) (by decide +kernel)) (fun _ _ _ _ _ => (pg_name (i := 2) sc_l_rows.nd rfl (.inl rfl))) (fun _ _ _ _ _ => pts_nil) (fun _ _ _ _ _ => (pe_join pe_str (pe_slice sl_U (pv 1) (po_some (pv 2)) (po_some (pe_op op_addU (pv 2) (pe_ix ix_seq (pv 0) pe_int (fun _ _ => rfl))))))))))))


end
section
variable {w : World} {K : PySem.W.Frag} {mg : Str → Option Value} {base : Heap}
local macro_rules | `(tactic| walk_at "hc") => `(tactic| first
  | assumption
  | ((refine CodeAt.same (H := ?xH) ?xb ?xa); (case xa => assumption); (case xb => walk_at "hc")))
local macro_rules | `(tactic| walk_at "rd0") => `(tactic| first
  | ((with_reducible refine r_get (a := ?xa) (c := ?xc) ?x1 ?x2 ?_); (case x1 => rfl); (case x2 => walk_at "hc"))
  | ((with_reducible refine r_methC (a := ?xa) (c := ?xc) ?x1 ?x2 ?x3 ?_); (case x1 => rfl); (case x2 => walk_at "hc"); (case x3 => (intro _ _ _; rfl)))
  | (with_reducible refine r_fmtB ?_)
  | (with_reducible refine r_dget ?_)
  | (with_reducible refine r_m0 ?_)
  | (with_reducible refine r_makeK ?_)
  | (with_reducible refine r_cval ?_)
  | (with_reducible refine r_sfld ?_)
  | (with_reducible refine r_isiI ?_)
  | (with_reducible refine r_isiIB ?_)
  | (with_reducible refine r_isiS ?_)
  | (with_reducible refine r_inID ?_))

local macro_rules | `(tactic| walk_at "hcr") => `(tactic| first
  | assumption
  | ((refine RulesAt.same (H := ?xH) ?xb ?xa); (case xa => assumption); (case xb => walk_at "hcr")))
local macro_rules | `(tactic| walk_at "rd0") => `(tactic| first
  | ((with_reducible refine r_getR (a := ?xa) (r := ?xr) ?x1 ?x2 ?_); (case x1 => rfl); (case x2 => walk_at "hcr")))

/-! ### the law's reading of bit codes: small ones -/
theorem r_neS1 {a b : Str} {H : Hp} {Q : VK} (h : Q (.bl (!decide (a = b))) H) : rNeU K (.str a) (.str b) H Q := .inl ⟨rfl, by
  rw [show decide (V.str a = V.str b) = decide (a = b) from decide_eq_decide.mpr ⟨fun z => by cases z; rfl, fun z => by rw [z]⟩]
  exact h⟩
theorem digZ_of {c : CodeD} (nd : c.sg.cps.toList.Nodup) {d : Nat} (h : d ∈ c.sg.cps.toList) : ∃ rest, Builtin.Str.occurrences c.sg ⟨#[d]⟩ 0 c.sg.length 1 = (digZ c [d]).toNat :: rest ∧ 0 ≤ digZ c [d] := by
  have e : digZ c [d] = ((c.sg.cps.toList.idxOf d : Nat) : Int) := if_pos h
  have h1 : c.sg.cps.toList[c.sg.cps.toList.idxOf d]? = some d := by
    rw [List.getElem?_eq_getElem (List.idxOf_lt_length_of_mem h), List.getElem_idxOf]
  obtain ⟨rest, hr⟩ := occ_at nd h1
  exact ⟨rest, by rw [e, Int.toNat_natCast]; exact hr, by rw [e]; omega⟩
theorem digZ_no {c : CodeD} {d : Nat} (h : d ∉ c.sg.cps.toList) : digZ c [d] = -1 := if_neg h
def sp_l_digit (T : Txt K mg) : Sp := fun vs H Q _ => ∃ p q c r, ∃ ch : Nat, vs = [.ref p, .ref q, .str (tx [ch])] ∧ TupC H p c ∧ RTup H q r ∧ c.sg.cps.toList.Nodup ∧ c.sg.length ≤ 64 ∧ Q (.int (digR c r ch)) H
theorem len_l_digit (T : Txt K mg) (vs : List V) (H : Hp) (Q : VK) (E : XK) (h : sp_l_digit T vs H Q E) : vs.length = 3 := by
  obtain ⟨_, _, _, _, _, rfl, _⟩ := h
  rfl
def t_l_digit (T : Txt K mg) : TS := (tSeq (tIfS (tTest (tOp (rInU K) (tVar 2) (tOp (rIx K) (tVar 0) (tC (.int 0))))) (tRet (tBM K "str" rSIdx (tOp (rIx K) (tVar 0) (tC (.int 0))) (tCons (tVar 2) tNil))) tNext)
    (tSeq (tAsg (tIf (tAnd (tB (tOp (rIx K) (tVar 1) (tC (.int 4)))) (tTest (tOp (rNeU K) (tVar 2) (tOp (rIx K) (tVar 0) (tC (.int 1)))))) (tCall (sp_l_other T) [] E0 (tCons (tVar 2) tNil)) (tC (.str (Str.ofString "")))) (gName 3))
    (tRet (tIf (tAnd (tTest (tOp (rNeU K) (tVar 3) (tC (.str (Str.ofString ""))))) (tTest (tOp (rInU K) (tVar 3) (tOp (rIx K) (tVar 0) (tC (.int 0)))))) (tBM K "str" rSIdx (tOp (rIx K) (tVar 0) (tC (.int 0))) (tCons (tVar 3) tNil)) (tUn rNegI (tC (.int 1)))))))

theorem pure_l_digit (T : Txt K mg) (vs : List V) (H : Hp) (Q : VK) (E : XK) (h : sp_l_digit T vs H Q E) : t_l_digit T { nx := fun _ H' => Q .non H', rt := Q } (start ["_law_code_here", "_law_ruled_here", "_law_one", "_law_both"] vs) H := by
  obtain ⟨p, q, c, r, ch, rfl, hp, hq, nd, hl, k⟩ := h
  unfold TupC at hp
  unfold RTup at hq
  have zs : c.sg.length ≤ sizeLine := smallS (by omega)
  have gi : ∀ d, d ∈ c.sg.cps.toList → ∀ (Q' : VK), Q' (.int (digZ c [d])) H → rSIdx (.str c.sg) [.str (tx [d])] H Q' := by
    intro d hd Q' hQ
    obtain ⟨rest, h1, h2⟩ := digZ_of nd hd
    refine r_sidx (b := tx [d]) h1 ?_
    rw [show (((digZ c [d]).toNat : Nat) : Int) = digZ c [d] by omega]
    exact hQ
  unfold t_l_digit
  walk_at "rd"
  refine r_inC ?_
  by_cases hm : ch ∈ c.sg.cps.toList
  · rw [decide_eq_true hm]
    walk_at "rd"
    refine ⟨rfl, ?_⟩
    walk_at "rd"
    refine gi ch hm _ ?_
    have e : digR c r ch = digZ c [ch] := by
      unfold digR
      have := (digZ_of nd hm).choose_spec.2
      rw [if_neg (fun z => by omega)]
    rw [← e]
    exact k
  · rw [decide_eq_false hm]
    have e1 := digZ_no hm
    walk_at "rx"
    refine r_seqC (fun σ G => ∃ l : List Nat, σ = [some (.ref p), some (.ref q), some (.str (tx [ch])), some (.str (tx l))] ∧ G = H ∧ l.length ≤ 1 ∧ l = (if r.fold = true ∧ tx [ch] ≠ c.pd then oc ch else [])) ?_ fun N tail => ?_
    rotate_left
    · walk_at "rd"
      refine r_iteB (fun hf => ?_) (fun hf => ?_)
      · walk_at "rd"
        refine r_iteND (fun hp1 => ?_) (fun hp1 => ?_)
        · walk_at "rd"
          refine ⟨[ch], rfl, Nat.le_refl _, ?_⟩
          walk_at "rd"
          exact tail _ _ ⟨oc ch, rfl, rfl, oc_len ch, by rw [if_pos ⟨hf, hp1⟩]⟩
        · walk_at "rd"
          exact tail _ _ ⟨[], rfl, rfl, Nat.zero_le _, by rw [if_neg (fun z => z.2 hp1)]⟩
      · walk_at "rd"
        exact tail _ _ ⟨[], rfl, rfl, Nat.zero_le _, by rw [if_neg (fun z => by rw [hf] at z; cases z.1)]⟩
    rintro σ G ⟨l, rfl, rfl, l1, hl'⟩
    have eR : digR c r ch = digZ c l := by
      unfold digR
      rw [hl', e1]
      by_cases hh : r.fold = true ∧ tx [ch] ≠ c.pd
      · rw [if_pos ⟨by decide, hh⟩, if_pos hh]
      · rw [if_neg (fun z => hh z.2), if_neg hh]
        rfl
    rw [eR] at k
    walk_at "rd"
    match l, l1, k with
    | [], _, k =>
      refine r_iteND (fun h => absurd rfl h) (fun _ => ?_)
      walk_at "rd"
      exact r_negI k
    | [d], _, k =>
      refine r_iteND (fun _ => ?_) (fun h => ?_)
      · walk_at "rd"
        refine r_inC ?_
        by_cases hd : d ∈ c.sg.cps.toList
        · rw [decide_eq_true hd]
          walk_at "rd"
          refine ⟨rfl, ?_⟩
          walk_at "rd"
          exact gi d hd _ k
        · rw [decide_eq_false hd]
          rw [digZ_no hd] at k
          walk_at "rd"
          exact r_negI k
      · have := tx_inj (show tx [d] = tx [] from h)
        cases this
theorem ok_l_digit (T : Txt K mg) : FnOk P w K mg base CX0 2 T.l_digit_a T.l_digit_d ["_law_code_here", "_law_ruled_here", "_law_one"] (sp_l_digit T) := by
  refine T.l_digit_f.ok sc_l_digit (fun vs H Q E h => len_l_digit T vs H Q E h) (fun cdv A outer s H vs Q E hr h => ⟨t_l_digit T, PSs.nox ?_, pure_l_digit T vs H Q E h⟩)
  have hu := hu64 hr
  exact (pss_cons (ps_if (pt_cmpR op_inU (pv 2) (pe_ix ix_seq (pv 0) pe_int (fun _ _ => rfl)) (by rfl)) (pss_one (ps_ret (pe_bm PySem.F.plainAttrs_str PySem.F.slot_str_index PySem.F.type_str_index mt_sindex (pe_ix ix_seq (pv 0) pe_int (fun _ _ => rfl)) (pa_cons (pv 2) pa_nil)))) pss_nil)
      (pss_cons (ps_set (i := 3) sc_l_digit.nd rfl (.inl rfl) (pe_ifExp (PW.pt (pw_and (pt_val (pe_ix ix_seq (pv 1) pe_int (fun _ _ => rfl))) (pw_and1 (pt_cmpR (op_neU hu) (pv 2) (pe_ix ix_seq (pv 0) pe_int (fun _ _ => rfl)) (nomark _))))) (pe_call (ok_l_other T) (hr.mono (by decide)) (by rfl) T.l_other_g T.l_other_f.kp T.l_other_b .nil pass0 (pa_cons (pv 2) pa_nil)) pe_str))
      (pss_one (ps_ret (pe_ifExp (PW.pt (pw_and (pt_cmpR (op_neU hu) (pv 3) pe_str (nomark _)) (pw_and1 (pt_cmpR op_inU (pv 3) (pe_ix ix_seq (pv 0) pe_int (fun _ _ => rfl)) (by rfl))))) (pe_bm PySem.F.plainAttrs_str PySem.F.slot_str_index PySem.F.type_str_index mt_sindex (pe_ix ix_seq (pv 0) pe_int (fun _ _ => rfl)) (pa_cons (pv 3) pa_nil)) (pe_un un_neg pe_int))))))


end
section
variable {w : World} {K : PySem.W.Frag} {mg : Str → Option Value} {base : Heap}
local macro_rules | `(tactic| walk_at "hc") => `(tactic| first
  | assumption
  | ((refine CodeAt.same (H := ?xH) ?xb ?xa); (case xa => assumption); (case xb => walk_at "hc")))
local macro_rules | `(tactic| walk_at "rd0") => `(tactic| first
  | ((with_reducible refine r_get (a := ?xa) (c := ?xc) ?x1 ?x2 ?_); (case x1 => rfl); (case x2 => walk_at "hc"))
  | ((with_reducible refine r_methC (a := ?xa) (c := ?xc) ?x1 ?x2 ?x3 ?_); (case x1 => rfl); (case x2 => walk_at "hc"); (case x3 => (intro _ _ _; rfl)))
  | (with_reducible refine r_fmtB ?_)
  | (with_reducible refine r_dget ?_)
  | (with_reducible refine r_m0 ?_)
  | (with_reducible refine r_makeK ?_)
  | (with_reducible refine r_cval ?_)
  | (with_reducible refine r_sfld ?_)
  | (with_reducible refine r_isiI ?_)
  | (with_reducible refine r_isiIB ?_)
  | (with_reducible refine r_isiS ?_)
  | (with_reducible refine r_inID ?_))

local macro_rules | `(tactic| walk_at "hcr") => `(tactic| first
  | assumption
  | ((refine RulesAt.same (H := ?xH) ?xb ?xa); (case xa => assumption); (case xb => walk_at "hcr")))
local macro_rules | `(tactic| walk_at "rd0") => `(tactic| first
  | ((with_reducible refine r_getR (a := ?xa) (r := ?xr) ?x1 ?x2 ?_); (case x1 => rfl); (case x2 => walk_at "hcr")))

set_option hygiene false in
local macro_rules | `(tactic| walk_at "n1") => `(tactic| (refine And.intro (by walk_at "sz") ?_; intro p1 np1; generalize hg : upd _ p1 _ = H1; have s1 := same_of hg np1; have v1 := at_of hg; clear hg))
set_option hygiene false in
local macro_rules | `(tactic| walk_at "n2") => `(tactic| (refine And.intro (by walk_at "sz") ?_; intro p2 np2; generalize hg : upd _ p2 _ = H2; have s2 := same_of hg np2; have v2 := at_of hg; clear hg))
set_option hygiene false in
local macro_rules | `(tactic| walk_at "n3") => `(tactic| (refine And.intro (by walk_at "sz") ?_; intro p3 np3; generalize hg : upd _ p3 _ = H3; have s3 := same_of hg np3; have v3 := at_of hg; clear hg))
set_option hygiene false in
local macro_rules | `(tactic| walk_at "n4") => `(tactic| (refine And.intro (by walk_at "sz") ?_; intro p4 np4; generalize hg : upd _ p4 _ = H4; have s4 := same_of hg np4; have v4 := at_of hg; clear hg))

/-! ### the law's reading: kinds, whole bytes, ends -/
def sp_l_kind (T : Txt K mg) : Sp := fun vs H Q _ => ∃ p q c r, ∃ ch : Nat, vs = [.ref p, .ref q, .str (tx [ch])] ∧ TupC H p c ∧ RTup H q r ∧ c.sg.cps.toList.Nodup ∧ c.sg.length ≤ 64 ∧ Q (.str (kindC c r ch)) H
theorem len_l_kind (T : Txt K mg) (vs : List V) (H : Hp) (Q : VK) (E : XK) (h : sp_l_kind T vs H Q E) : vs.length = 3 := by
  obtain ⟨_, _, _, _, _, rfl, _⟩ := h
  rfl
def t_l_kind (T : Txt K mg) : TS := (tSeq (tIfS (tTest (tOp (rEqU K) (tVar 2) (tC (.str (Str.ofString "\n"))))) (tRet (tC (.str (Str.ofString "line")))) tNext)
    (tSeq (tIfS (tTest (tOp (rEqU K) (tVar 2) (tOp (rIx K) (tVar 0) (tC (.int 1))))) (tRet (tC (.str (Str.ofString "pad")))) tNext)
    (tRet (tIf (tTest (tOp rGeI (tCall (sp_l_digit T) [] E0 (tCons (tVar 0) (tCons (tVar 1) (tCons (tVar 2) tNil)))) (tC (.int 0)))) (tC (.str (Str.ofString "sign"))) (tC (.str (Str.ofString "noise")))))))

theorem pure_l_kind (T : Txt K mg) (vs : List V) (H : Hp) (Q : VK) (E : XK) (h : sp_l_kind T vs H Q E) : t_l_kind T { nx := fun _ H' => Q .non H', rt := Q } (start ["_law_code_here", "_law_ruled_here", "_law_one"] vs) H := by
  obtain ⟨p, q, c, r, ch, rfl, hp, hq, nd, hl, k⟩ := h
  have hp' := hp
  have hq' := hq
  unfold TupC at hp
  unfold RTup at hq
  unfold kindC at k
  unfold t_l_kind
  walk_at "rd"
  refine r_iteD (fun h1 => ?_) (fun h1 => ?_)
  · walk_at "rd"
    rw [if_pos ((tx1_nl ch).mp h1)] at k
    exact k
  · rw [if_neg (fun z => h1 ((tx1_nl ch).mpr z))] at k
    walk_at "rd"
    refine r_iteD (fun h2 => ?_) (fun h2 => ?_)
    · walk_at "rd"
      rw [if_pos h2] at k
      exact k
    · rw [if_neg h2] at k
      walk_at "rd"
      refine ⟨p, q, c, r, ch, rfl, hp', hq', nd, hl, ?_⟩
      walk_at "rd"
      refine r_iteD (fun h3 => ?_) (fun h3 => ?_)
      · walk_at "rd"
        rw [if_pos (by omega)] at k
        exact k
      · walk_at "rd"
        rw [if_neg (by omega)] at k
        exact k
theorem ok_l_kind (T : Txt K mg) : FnOk P w K mg base CX0 3 T.l_kind_a T.l_kind_d ["_law_code_here", "_law_ruled_here", "_law_one"] (sp_l_kind T) := by
  refine T.l_kind_f.ok sc_l_kind (fun vs H Q E h => len_l_kind T vs H Q E h) (fun cdv A outer s H vs Q E hr h => ⟨t_l_kind T, PSs.nox ?_, pure_l_kind T vs H Q E h⟩)
  have hu := hu64 hr
  exact (pss_cons (ps_if (pt_cmpR (op_eqU hu) (pv 2) pe_str (nomark _)) (pss_one (ps_ret pe_str)) pss_nil)
      (pss_cons (ps_if (pt_cmpR (op_eqU hu) (pv 2) (pe_ix ix_seq (pv 0) pe_int (fun _ _ => rfl)) (nomark _)) (pss_one (ps_ret pe_str)) pss_nil)
      (pss_one (ps_ret (pe_ifExp (pt_cmpR op_ge (pe_call (ok_l_digit T) (hr.mono (by decide)) (by rfl) T.l_digit_g T.l_digit_f.kp T.l_digit_b .nil pass0 (pa_cons (pv 0) (pa_cons (pv 1) (pa_cons (pv 2) pa_nil)))) pe_int (nomark _)) pe_str pe_str)))))

/-- the bits so far: those of whole bytes, those that are left over -/
def d48 (b : List Nat) : List Nat := b.map (· - 48)
def AllB (G : Hp) (d : Addr) (A b : List Nat) : Prop := G d = some (.lst ((A ++ d48 b).map nv)) ∧ A.length % 8 = 0 ∧ b.length < 8 ∧ Bits b ∧ A.length ≤ 96000
theorem AllB.same {G G' : Hp} {d : Addr} {A b : List Nat} (h : AllB G d A b) (s : Same G G') : AllB G' d A b := ⟨s _ _ h.1, h.2⟩
theorem d48_len (b : List Nat) : (d48 b).length = b.length := List.length_map _
theorem one_d48 {b : List Nat} (h : Bits b) : inV (.int 1) ((d48 b).map nv) = decide (49 ∈ b) := by
  induction b with
  | nil => rfl
  | cons x b ih =>
    have ih := ih fun c hc => h c (List.mem_cons_of_mem _ hc)
    have hx := h x (List.mem_cons_self ..)
    unfold Bn.IsBit at hx
    have e : inV (.int 1) ((d48 (x :: b)).map nv) = (decide (x = 49) || inV (.int 1) ((d48 b).map nv)) := by
      rcases hx with rfl | rfl
      · rfl
      · rfl
    rw [e, ih]
    rw [← Bool.decide_or]
    exact decide_eq_decide.mpr ⟨fun z => z.elim (fun z => by rw [z]; exact List.mem_cons_self ..) fun z => List.mem_cons_of_mem _ z, fun z => (List.mem_cons.mp z).imp (fun z => z.symm) id⟩
theorem flat_nv (l : List Nat) : (l.map nv).all flatV = true := by
  rw [List.all_eq_true]
  intro x hx
  obtain ⟨n, _, rfl⟩ := List.mem_map.mp hx
  rfl
theorem r_ninN {x : V} {t : Addr} {xs : List V} {H : Hp} {Q : VK} (h1 : SqL K H t xs) (f1 : flatV x = true) (f2 : xs.all flatV = true) (h : Q (.bl (!inV x xs)) H) : rNinU K x (.ref t) H Q := .inr ⟨t, xs, rfl, .inl h1, f1, f2, h⟩
theorem cutV_from {l : List V} {a : Nat} (h : a ≤ l.length) : cutV l (some (a : Int)) none = l.drop a := by
  unfold cutV
  rw [HT.sIx_none, sIx_le_nat rfl h, List.take_of_length_le (by rw [List.length_drop]; exact Nat.le_refl _)]
def sp_l_is_whole (T : Txt K mg) : Sp := fun vs H Q _ => ∃ p q d c r A b, vs = [.ref p, .ref q, .ref d] ∧ TupC H p c ∧ c.Ok ∧ RTup H q r ∧ AllB H d A b ∧ ∀ H', Same H H' → Q (.bl (wholeC c r b)) H'
theorem len_l_is_whole (T : Txt K mg) (vs : List V) (H : Hp) (Q : VK) (E : XK) (h : sp_l_is_whole T vs H Q E) : vs.length = 3 := by
  obtain ⟨_, _, _, _, _, _, _, rfl, _⟩ := h
  rfl
def t_l_is_whole (T : Txt K mg) : TS := (tSeq (tAsg (tOp rModI (tCB (rLenU K) (tCons (tVar 2) tNil)) (tC (.int 8))) (gName 3))
    (tRet (tAndV (tOp rLtI (tVar 3) (tCall (sp_l_size T) [] E0 (tCons (tVar 0) tNil))) (tOrV (tOp (rIx K) (tVar 1) (tC (.int 3))) (tOp (rNinU K) (tC (.int 1)) (tSl (rSlU K) (tVar 2) (tPart (tOp rSubI (tCB (rLenU K) (tCons (tVar 2) tNil)) (tVar 3))) tNoPart))))))

theorem pure_l_is_whole (T : Txt K mg) (vs : List V) (H : Hp) (Q : VK) (E : XK) (h : sp_l_is_whole T vs H Q E) : t_l_is_whole T { nx := fun _ H' => Q .non H', rt := Q } (start ["_law_code_here", "_law_ruled_here", "_law_bits_here", "_law_left"] vs) H := by
  obtain ⟨p, q, d, c, r, A, b, rfl, hp, ok, hq, ⟨hd, hA, hb, bb, hA2⟩, k⟩ := h
  have hp' := hp
  unfold TupC at hp
  unfold RTup at hq
  unfold wholeC at k
  have ll : ((A ++ d48 b).map nv).length = A.length + b.length := by rw [List.length_map, List.length_append, d48_len]
  have lm : ((((A ++ d48 b).map nv).length : Nat) : Int).fmod 8 = (b.length : Nat) := by
    rw [ll, Int.fmod_eq_emod_of_nonneg _ (by decide)]
    omega
  unfold t_l_is_whole
  walk_at "rd"
  rw [lm]
  walk_at "rd"
  refine ⟨p, c.sg, c.pd, c.wd, c.sb, rfl, hp, ok.ln, ok.b1, ok.b6, fun H1 s1 => ?_⟩
  have hq1 := s1 _ _ hq
  have hd1 := s1 _ _ hd
  have k := fun H' s' => k H' (s1.trans s')
  walk_at "rd"
  rw [show decide ((((b.length : Nat) : Int)) < (c.sb : Int)) = decide (b.length < c.sb) from decide_eq_decide.mpr (by omega)]
  cases hbl : decide (b.length < c.sb) with
  | false =>
    rw [hbl] at k
    walk_at "rd"
    exact k _ (Same.refl _)
  | true =>
    rw [hbl, Bool.true_and] at k
    walk_at "rd"
    cases hlo : r.loose with
    | true =>
      rw [hlo] at k
      walk_at "rd"
      exact k _ (Same.refl _)
    | false =>
      rw [hlo] at k
      walk_at "rd"
      refine r_slUL (ql hd1) ?_
      intro l3 nl3
      rw [ll, show (((A.length + b.length : Nat) : Int)) - ((b.length : Nat) : Int) = ((A.length : Nat) : Int) by omega, cutV_from (by rw [ll]; omega), List.map_append, List.drop_left' (List.length_map _)]
      generalize hg7 : upd _ l3 _ = H7
      have s7 := same_of hg7 nl3
      have v7 := at_of hg7
      clear hg7
      refine r_ninN (ql v7) rfl (flat_nv _) ?_
      rw [one_d48 bb]
      exact k _ s7
theorem ok_l_is_whole (T : Txt K mg) : FnOk P w K mg base CX0 2 T.l_is_whole_a T.l_is_whole_d ["_law_code_here", "_law_ruled_here", "_law_bits_here"] (sp_l_is_whole T) := by
  refine T.l_is_whole_f.ok sc_l_is_whole (fun vs H Q E h => len_l_is_whole T vs H Q E h) (fun cdv A outer s H vs Q E hr h => ⟨t_l_is_whole T, PSs.nox ?_, pure_l_is_whole T vs H Q E h⟩)
  have hu := hu64 hr
  exact (pss_cons (ps_set (i := 3) sc_l_is_whole.nd rfl (.inl rfl) (pe_op op_modN (pe_callB c_lenU (by rfl) T.n_len (by decide +kernel) (pa_cons (pv 2) pa_nil)) pe_int))
      (pss_one (ps_ret (pe_and (pe_cmpR op_lt (pv 3) (pe_call (ok_l_size T) (hr.mono (by decide)) (by rfl) T.l_size_g T.l_size_f.kp T.l_size_b .nil pass0 (pa_cons (pv 0) pa_nil)) (nomark _)) (pe_one (pe_or (pe_ix ix_seq (pv 1) pe_int (fun _ _ => rfl)) (pe_one (pe_cmpR op_ninU pe_int (pe_slice sl_U (pv 2) (po_some (pe_op op_sub (pe_callB c_lenU (by rfl) T.n_len (by decide +kernel) (pa_cons (pv 2) pa_nil)) (pv 3))) po_none) (by rfl)))))))))

theorem neg_grp {m : Nat} (h1 : 1 ≤ m) (h6 : m ≤ 6) (n : Nat) : (0 - (n : Int)).fmod ((grp m : Nat) : Int) = (((grp m - n % grp m) % grp m : Nat) : Int) := by
  have e : m = 1 ∨ m = 2 ∨ m = 3 ∨ m = 4 ∨ m = 5 ∨ m = 6 := by omega
  have g : grp m = 8 ∨ grp m = 4 ∨ grp m = 2 := by rcases e with rfl | rfl | rfl | rfl | rfl | rfl <;> decide
  rw [Int.fmod_eq_emod_of_nonneg _ (by omega)]
  rcases g with e | e | e <;> rw [e] <;> omega
def sp_l_may_pad (T : Txt K mg) : Sp := fun vs H Q _ => ∃ p q d c r A b, ∃ S E : Nat, vs = [.ref p, .ref q, .ref d, .int S, .int E] ∧ TupC H p c ∧ c.Ok ∧ RTup H q r ∧ AllB H d A b ∧
  ∀ H', Same H H' → Q (.bl (padC c r ⟨b, S % grp c.sb, 0, E, false⟩)) H'
theorem len_l_may_pad (T : Txt K mg) (vs : List V) (H : Hp) (Q : VK) (E : XK) (h : sp_l_may_pad T vs H Q E) : vs.length = 5 := by
  obtain ⟨_, _, _, _, _, _, _, _, _, rfl, _⟩ := h
  rfl
def t_l_may_pad (T : Txt K mg) : TS := (tSeq (tIfS (tOr (tTest (tOp (rEqU K) (tOp (rIx K) (tVar 0) (tC (.int 1))) (tC (.str (Str.ofString ""))))) (tOr (tTest (tOp (rEqU K) (tOp (rIx K) (tVar 1) (tC (.int 0))) (tC (.str (Str.ofString "none"))))) (tNot (tB (tCall (sp_l_is_whole T) [] E0 (tCons (tVar 0) (tCons (tVar 1) (tCons (tVar 2) tNil)))))))) (tRet (tC (.bl false))) tNext)
    (tRet (tOrV (tOp (rEqU K) (tOp (rIx K) (tVar 1) (tC (.int 0))) (tC (.str (Str.ofString "any")))) (tOp rLtI (tVar 4) (tOp rModI (tOp rSubI (tC (.int 0)) (tVar 3)) (tCall (sp_l_group T) [] E0 (tCons (tVar 0) tNil)))))))

theorem pure_l_may_pad (T : Txt K mg) (vs : List V) (H : Hp) (Q : VK) (E : XK) (h : sp_l_may_pad T vs H Q E) : t_l_may_pad T { nx := fun _ H' => Q .non H', rt := Q } (start ["_law_code_here", "_law_ruled_here", "_law_bits_here", "_law_signs", "_law_ends"] vs) H := by
  obtain ⟨p, q, d, c, r, A, b, S, E, rfl, hp, ok, hq, hd, k⟩ := h
  have hp' := hp
  have hq' := hq
  unfold TupC at hp
  unfold RTup at hq
  unfold padC at k
  unfold t_l_may_pad
  walk_at "rd"
  refine r_iteD (fun h1 => ?_) (fun h1 => ?_)
  · walk_at "rd"
    rw [if_pos (.inl h1)] at k
    exact k _ (Same.refl _)
  walk_at "rd"
  refine r_iteD (fun h2 => ?_) (fun h2 => ?_)
  · walk_at "rd"
    rw [if_pos (.inr (.inl h2))] at k
    exact k _ (Same.refl _)
  walk_at "rd"
  refine ⟨p, q, d, c, r, A, b, rfl, hp', ok, hq', hd, fun H1 s1 => ?_⟩
  have hp1 := s1 _ _ hp
  have hq1 := s1 _ _ hq
  have k := fun H' s' => k H' (s1.trans s')
  cases hw : wholeC c r b with
  | false =>
    rw [if_pos (.inr (.inr hw))] at k
    walk_at "rd"
    exact k _ (Same.refl _)
  | true =>
    have nw : ¬ (c.pd = tx [] ∨ r.pads = Str.ofString "none" ∨ wholeC c r b = false) := by
      rintro (z | z | z)
      · exact h1 z
      · exact h2 z
      · rw [hw] at z; cases z
    rw [if_neg nw] at k
    walk_at "rd"
    cases ha : decide (r.pads = Str.ofString "any") with
    | true =>
      rw [ha, Bool.true_or] at k
      walk_at "rd"
      exact k _ (Same.refl _)
    | false =>
      rw [ha, Bool.false_or] at k
      walk_at "rd"
      refine ⟨p, c.sg, c.pd, c.wd, c.sb, rfl, hp1, ok.ln, ok.b1, ok.b6, fun H2 s2 => ?_⟩
      have gp := grp_pos ok.b1 ok.b6
      walk_at "rd"
      rw [neg_grp ok.b1 ok.b6]
      have e : decide (((E : Nat) : Int) < (((grp c.sb - S % grp c.sb) % grp c.sb : Nat) : Int)) = decide (E < misC c (S % grp c.sb)) := decide_eq_decide.mpr (by unfold misC; omega)
      rw [e]
      exact k _ s2
theorem ok_l_may_pad (T : Txt K mg) : FnOk P w K mg base CX0 3 T.l_may_pad_a T.l_may_pad_d ["_law_code_here", "_law_ruled_here", "_law_bits_here", "_law_signs", "_law_ends"] (sp_l_may_pad T) := by
  refine T.l_may_pad_f.ok sc_l_may_pad (fun vs H Q E h => len_l_may_pad T vs H Q E h) (fun cdv A outer s H vs Q E hr h => ⟨t_l_may_pad T, PSs.nox ?_, pure_l_may_pad T vs H Q E h⟩)
  have hu := hu64 hr
  exact (pss_cons (ps_if (PW.pt (pw_or (pt_cmpR (op_eqU hu) (pe_ix ix_seq (pv 0) pe_int (fun _ _ => rfl)) pe_str (nomark _)) (pw_or (pt_cmpR (op_eqU hu) (pe_ix ix_seq (pv 1) pe_int (fun _ _ => rfl)) pe_str (nomark _)) (pw_or1 (pt_not (pt_val (pe_call (ok_l_is_whole T) (hr.mono (by decide)) (by rfl) T.l_is_whole_g T.l_is_whole_f.kp T.l_is_whole_b .nil pass0 (pa_cons (pv 0) (pa_cons (pv 1) (pa_cons (pv 2) pa_nil)))))))))) (pss_one (ps_ret pe_bl)) pss_nil)
      (pss_one (ps_ret (pe_or (pe_cmpR (op_eqU hu) (pe_ix ix_seq (pv 1) pe_int (fun _ _ => rfl)) pe_str (nomark _)) (pe_one (pe_cmpR op_lt (pv 4) (pe_op op_modN (pe_op op_sub pe_int (pv 3)) (pe_call (ok_l_group T) (hr.mono (by decide)) (by rfl) T.l_group_g T.l_group_f.kp T.l_group_b .nil pass0 (pa_cons (pv 0) pa_nil))) (nomark _)))))))

def sp_l_may_end (T : Txt K mg) : Sp := fun vs H Q _ => ∃ p q d c r A b, ∃ S E : Nat, vs = [.ref p, .ref q, .ref d, .int S, .int E] ∧ TupC H p c ∧ c.Ok ∧ RTup H q r ∧ AllB H d A b ∧ (c.pd = tx [] → E = 0) ∧ padsOk r.pads ∧
  ∀ H', Same H H' → Q (.bl (endC c r b (S % grp c.sb) E false)) H'
theorem len_l_may_end (T : Txt K mg) (vs : List V) (H : Hp) (Q : VK) (E : XK) (h : sp_l_may_end T vs H Q E) : vs.length = 5 := by
  obtain ⟨_, _, _, _, _, _, _, _, _, rfl, _⟩ := h
  rfl
def t_l_may_end (T : Txt K mg) : TS := (tSeq (tAsg (tIf (tTest (tOp (rNeU K) (tOp (rIx K) (tVar 0) (tC (.int 1))) (tC (.str (Str.ofString ""))))) (tOp rModI (tOp rSubI (tC (.int 0)) (tVar 3)) (tCall (sp_l_group T) [] E0 (tCons (tVar 0) tNil))) (tC (.int 0))) (gName 5))
    (tSeq (tIfS (tTest (tOp (rInU K) (tOp (rIx K) (tVar 1) (tC (.int 0))) (tTup (tCons (tC (.str (Str.ofString "any"))) (tCons (tC (.str (Str.ofString "none"))) tNil))))) (tAsg (tVar 4) (gName 5)) tNext)
    (tRet (tAndV (tCall (sp_l_is_whole T) [] E0 (tCons (tVar 0) (tCons (tVar 1) (tCons (tVar 2) tNil)))) (tOrV (tOp (rEqU K) (tVar 4) (tVar 5)) (tAndV (tOp (rEqU K) (tOp (rIx K) (tVar 1) (tC (.int 0))) (tC (.str (Str.ofString "optional")))) (tOp (rEqU K) (tVar 4) (tC (.int 0)))))))))

theorem pure_l_may_end (T : Txt K mg) (vs : List V) (H : Hp) (Q : VK) (E : XK) (h : sp_l_may_end T vs H Q E) : t_l_may_end T { nx := fun _ H' => Q .non H', rt := Q } (start ["_law_code_here", "_law_ruled_here", "_law_bits_here", "_law_signs", "_law_ends", "_law_due"] vs) H := by
  obtain ⟨p, q, d, c, r, A, b, S, E, rfl, hp, ok, hq, hd, hE, po, k⟩ := h
  have hp' := hp
  have hq' := hq
  unfold TupC at hp
  unfold RTup at hq
  have gp := grp_pos ok.b1 ok.b6
  unfold t_l_may_end
  walk_at "rx"
  refine r_seqC (fun σ G => σ = [some (.ref p), some (.ref q), some (.ref d), some (.int S), some (.int E), some (.int ((if c.pd = tx [] then 0 else misC c (S % grp c.sb) : Nat) : Int))] ∧ Same H G) ?_ fun N tail => ?_
  rotate_left
  · walk_at "rd"
    refine r_iteND (fun h1 => ?_) (fun h1 => ?_)
    · walk_at "rd"
      refine ⟨p, c.sg, c.pd, c.wd, c.sb, rfl, hp, ok.ln, ok.b1, ok.b6, fun H2 s2 => ?_⟩
      walk_at "rd"
      rw [neg_grp ok.b1 ok.b6]
      refine tail _ _ ⟨?_, s2⟩
      rw [if_neg (show ¬ c.pd = tx [] from h1)]
      rfl
    · walk_at "rd"
      refine tail _ _ ⟨?_, Same.refl _⟩
      rw [if_pos (show c.pd = tx [] from h1)]
      rfl
  rintro σ G ⟨rfl, sG⟩
  have hqG := sG _ _ hq
  refine r_seqC (fun σ G' => σ = [some (.ref p), some (.ref q), some (.ref d), some (.int S), some (.int E), some (.int ((if r.pads = Str.ofString "any" ∨ r.pads = Str.ofString "none" then E else if c.pd = tx [] then 0 else misC c (S % grp c.sb) : Nat) : Int))] ∧ Same H G') ?_ fun N tail => ?_
  rotate_left
  · walk_at "rd"
    refine And.intro (by show 2 ≤ sizeLine; decide) fun t nt => ?_
    generalize hg : upd G t _ = G1
    have s1 := same_of hg nt
    have v1 := at_of hg
    clear hg
    refine r_inT (qt v1) rfl (by rfl) ?_
    have e : inV (.str r.pads) [V.str (Str.ofString "any"), .str (Str.ofString "none")] = decide (r.pads = Str.ofString "any" ∨ r.pads = Str.ofString "none") := by
      rcases po with e | e | e | e <;> rw [e] <;> decide +kernel
    rw [e]
    by_cases hm : r.pads = Str.ofString "any" ∨ r.pads = Str.ofString "none"
    · rw [decide_eq_true hm]
      walk_at "rd"
      refine tail _ _ ⟨?_, sG.trans s1⟩
      rw [if_pos hm]
      rfl
    · rw [decide_eq_false hm]
      walk_at "rd"
      refine tail _ _ ⟨?_, sG.trans s1⟩
      rw [if_neg hm]
  rintro σ G' ⟨rfl, sG'⟩
  have hqG' := sG' _ _ hq
  walk_at "rd"
  refine ⟨p, q, d, c, r, A, b, rfl, sG' _ _ hp', ok, sG' _ _ hq', hd.same sG', fun H3 s3 => ?_⟩
  have s03 := sG'.trans s3
  have hq3 := s03 _ _ hq
  have k := fun H' s' => k H' (s03.trans s')
  unfold endC at k
  cases hw : wholeC c r b with
  | false =>
    rw [if_pos (.inr hw)] at k
    walk_at "rd"
    exact k _ (Same.refl _)
  | true =>
    rw [if_neg (by rw [hw]; simp)] at k
    walk_at "rd"
    by_cases hm : c.pd = tx [] ∨ r.pads = Str.ofString "none" ∨ r.pads = Str.ofString "any"
    · rw [if_pos hm] at k
      refine r_iteD (fun _ => ?_) (fun h => absurd ?_ h)
      · walk_at "rd"
        exact k _ (Same.refl _)
      · by_cases hn : r.pads = Str.ofString "any" ∨ r.pads = Str.ofString "none"
        · rw [if_pos hn]
        · have hpd : c.pd = tx [] := hm.resolve_right fun z => hn z.symm
          rw [if_neg hn, if_pos hpd, hE hpd]
    · rw [if_neg hm] at k
      rw [if_neg (fun z => hm (.inr (Or.symm z))), if_neg (fun z => hm (.inl z))]
      refine r_iteD (fun h => ?_) (fun h => ?_)
      · walk_at "rd"
        rw [decide_eq_true (show E = misC c (S % grp c.sb) by omega), Bool.true_or] at k
        exact k _ (Same.refl _)
      · rw [decide_eq_false (show ¬ E = misC c (S % grp c.sb) by omega), Bool.false_or] at k
        walk_at "rd"
        revert k
        cases decide (r.pads = Str.ofString "optional") with
        | false =>
          intro k
          walk_at "rd"
          exact k _ (Same.refl _)
        | true =>
          intro k
          rw [Bool.true_and] at k
          walk_at "rd"
          rw [show decide ((E : Int) = 0) = decide (E = 0) from decide_eq_decide.mpr (by omega)]
          exact k _ (Same.refl _)
theorem ok_l_may_end (T : Txt K mg) : FnOk P w K mg base CX0 3 T.l_may_end_a T.l_may_end_d ["_law_code_here", "_law_ruled_here", "_law_bits_here", "_law_signs", "_law_ends"] (sp_l_may_end T) := by
  refine T.l_may_end_f.ok sc_l_may_end (fun vs H Q E h => len_l_may_end T vs H Q E h) (fun cdv A outer s H vs Q E hr h => ⟨t_l_may_end T, PSs.nox ?_, pure_l_may_end T vs H Q E h⟩)
  have hu := hu64 hr
  exact (pss_cons (ps_set (i := 5) sc_l_may_end.nd rfl (.inl rfl) (pe_ifExp (pt_cmpR (op_neU hu) (pe_ix ix_seq (pv 0) pe_int (fun _ _ => rfl)) pe_str (nomark _)) (pe_op op_modN (pe_op op_sub pe_int (pv 3)) (pe_call (ok_l_group T) (hr.mono (by decide)) (by rfl) T.l_group_g T.l_group_f.kp T.l_group_b .nil pass0 (pa_cons (pv 0) pa_nil))) pe_int))
      (pss_cons (ps_if (pt_cmpR op_inU (pe_ix ix_seq (pv 1) pe_int (fun _ _ => rfl)) (pe_tup (pa_cons pe_str (pa_cons pe_str pa_nil))) (by rfl)) (pss_one (ps_set (i := 5) sc_l_may_end.nd rfl (.inl rfl) (pv 4))) pss_nil)
      (pss_one (ps_ret (pe_and (pe_call (ok_l_is_whole T) (hr.mono (by decide)) (by rfl) T.l_is_whole_g T.l_is_whole_f.kp T.l_is_whole_b .nil pass0 (pa_cons (pv 0) (pa_cons (pv 1) (pa_cons (pv 2) pa_nil)))) (pe_one (pe_or (pe_cmpR (op_eqU hu) (pv 4) (pv 5) (nomark _)) (pe_one (pe_and (pe_cmpR (op_eqU hu) (pe_ix ix_seq (pv 1) pe_int (fun _ _ => rfl)) pe_str (nomark _)) (pe_one (pe_cmpR (op_eqU hu) (pv 4) pe_int (nomark _))))))))))))


end
section
variable {w : World} {K : PySem.W.Frag} {mg : Str → Option Value} {base : Heap}
local macro_rules | `(tactic| walk_at "hc") => `(tactic| first
  | assumption
  | ((refine CodeAt.same (H := ?xH) ?xb ?xa); (case xa => assumption); (case xb => walk_at "hc")))
local macro_rules | `(tactic| walk_at "rd0") => `(tactic| first
  | ((with_reducible refine r_get (a := ?xa) (c := ?xc) ?x1 ?x2 ?_); (case x1 => rfl); (case x2 => walk_at "hc"))
  | ((with_reducible refine r_methC (a := ?xa) (c := ?xc) ?x1 ?x2 ?x3 ?_); (case x1 => rfl); (case x2 => walk_at "hc"); (case x3 => (intro _ _ _; rfl)))
  | (with_reducible refine r_fmtB ?_)
  | (with_reducible refine r_dget ?_)
  | (with_reducible refine r_m0 ?_)
  | (with_reducible refine r_makeK ?_)
  | (with_reducible refine r_cval ?_)
  | (with_reducible refine r_sfld ?_)
  | (with_reducible refine r_isiI ?_)
  | (with_reducible refine r_isiIB ?_)
  | (with_reducible refine r_isiS ?_)
  | (with_reducible refine r_inID ?_))

/-! ### the plain law: the law's reading and the machine's -/
structure Rel (c : CodeD) (r : RD) (A b : List Nat) (S E col : Nat) (br : Bool) (ds : List Nat) (s : RC) : Prop where
  b : s.b = b
  sn : s.sn = S % grp c.sb
  cl : rowsC c r = true → s.col = col
  pn : s.pn = if r.pads = Str.ofString "any" then min 1 E else E
  br : s.br = br
  chs : ∃ C : List (List Nat), A = C.flatten ∧ (∀ x ∈ C, x.length = 8) ∧ ds = C.map numL
  pe : c.pd = tx [] → E = 0
theorem Rel.opn (c : CodeD) (r : RD) : Rel c r [] [] 0 0 0 false [] opnC :=
  ⟨rfl, (Nat.zero_mod _).symm, fun _ => rfl, by show 0 = _; split <;> rfl, rfl, ⟨[], rfl, (fun x h => nomatch h), rfl⟩, fun _ => rfl⟩
theorem Rel.pn0 {c : CodeD} {r : RD} {A b : List Nat} {S E col : Nat} {br : Bool} {ds : List Nat} {s : RC} (h : Rel c r A b S E col br ds s) : s.pn = 0 ↔ E = 0 := by
  rw [h.pn]
  split <;> omega
theorem Rel.pad {c : CodeD} {r : RD} {A b : List Nat} {S E col : Nat} {br : Bool} {ds : List Nat} {s : RC} (h : Rel c r A b S E col br ds s) : padC c r s = padC c r ⟨b, S % grp c.sb, 0, E, false⟩ := by
  unfold padC
  rw [h.b, h.sn]
  by_cases a : r.pads = Str.ofString "any"
  · rw [decide_eq_true a, Bool.true_or, Bool.true_or]
  · rw [h.pn, if_neg a]
theorem Rel.fin {c : CodeD} {r : RD} {A b : List Nat} {S E col : Nat} {br : Bool} {ds : List Nat} {s : RC} (h : Rel c r A b S E col br ds s) : endC c r s.b s.sn s.pn s.br = if br = true then false else endC c r b (S % grp c.sb) E false := by
  unfold endC
  rw [h.b, h.sn, h.br]
  cases br with
  | true => rfl
  | false =>
    rw [if_neg (show ¬ (false = true) from Bool.false_ne_true)]
    by_cases hw : wholeC c r b = false
    · have c1 : false = true ∨ wholeC c r b = false := .inr hw
      rw [if_pos c1, if_pos c1]
    have c2 : ¬ (false = true ∨ wholeC c r b = false) := fun z => z.elim (fun z => nomatch z) hw
    rw [if_neg c2, if_neg c2]
    by_cases a : r.pads = Str.ofString "any"
    · have c3 : c.pd = tx [] ∨ r.pads = Str.ofString "none" ∨ r.pads = Str.ofString "any" := .inr (.inr a)
      rw [if_pos c3, if_pos c3]
    · rw [h.pn, if_neg a]
def fullL (c : CodeD) (r : RD) (col : Nat) : Bool := r.lines && (decide (0 < c.wd) && decide (col = c.wd))
theorem Rel.full {c : CodeD} {r : RD} {A b : List Nat} {S E col : Nat} {br : Bool} {ds : List Nat} {s : RC} (h : Rel c r A b S E col br ds s) : (rowsC c r && c.full s.col) = fullL c r col := by
  have cl := h.cl
  unfold CodeD.full fullL
  cases hr : rowsC c r with
  | true =>
    rw [cl hr, Bool.true_and]
    unfold rowsC at hr
    rw [Bool.and_eq_true] at hr
    rw [hr.1, hr.2, Bool.true_and, Bool.true_and]
  | false =>
    unfold rowsC at hr
    rw [Bool.false_and, ← Bool.and_assoc, hr, Bool.false_and]
/-- whether the character may stand there -/
def goodL (c : CodeD) (full : Bool) (dg : Int) (E : Nat) (mp : Bool) (ch : Nat) : Bool := if tx [ch] = c.pd then !full && mp else if ch = 10 then full && (decide (E = 0) || mp) else !full && (decide (0 ≤ dg) && decide (E = 0))
theorem pd_10 {c : CodeD} (ok : c.Ok) : tx [10] ≠ c.pd := fun z => by
  have := ok.pds 10 (by rw [← z, tx_list]; exact List.mem_cons_self ..)
  unfold Sg at this
  omega
theorem dig_10 {c : CodeD} (ok : c.Ok) (r : RD) : digR c r 10 < 0 := by
  have e : digZ c [10] = -1 := digZ_no fun z => by
    have := ok.sgs 10 z
    unfold Sg at this
    omega
  unfold digR
  rw [e, show oc 10 = [] from rfl]
  split
  · show (-1 : Int) < 0; decide
  · decide
theorem dig_pd {c : CodeD} (nw : c.New) (r : RD) {ch : Nat} (h : tx [ch] = c.pd) : digR c r ch < 0 := by
  have e : digZ c [ch] = -1 := digZ_no (nw.2.2 ch (by rw [← h, tx_list]; exact List.mem_cons_self ..))
  unfold digR
  rw [e, if_neg (fun z => z.2.2 h)]
  decide
section
variable {c : CodeD} {r : RD} {A b : List Nat} {S E col : Nat} {br : Bool} {ds : List Nat} {s : RC} {ch : Nat}
theorem Rel.bad (h : Rel c r A b S E col br ds s) (ok : c.Ok) (hsk : ch ∉ r.skip) (g : goodL c (fullL c r col) (digR c r ch) E (padC c r ⟨b, S % grp c.sb, 0, E, false⟩) ch = false) : takeC c r s ch = none := by
  rw [← h.full, ← h.pad] at g
  unfold goodL at g
  unfold takeC
  rw [if_neg hsk]
  by_cases h1 : ch = 10
  · rw [if_pos h1]
    rw [if_neg (by rw [h1]; exact pd_10 ok), if_pos h1] at g
    refine if_neg fun z => ?_
    rw [z.1, Bool.true_and] at g
    rcases z.2 with z | z
    · rw [decide_eq_true (h.pn0.mp z)] at g
      cases g
    · rw [z, Bool.or_true] at g
      cases g
  rw [if_neg h1]
  by_cases h2 : (rowsC c r && c.full s.col) = true
  · rw [if_pos h2]
  rw [if_neg h2]
  rw [Bool.eq_false_iff.mpr h2] at g
  by_cases h3 : tx [ch] = c.pd
  · rw [if_pos h3]
    rw [if_pos h3] at g
    refine if_neg fun z => ?_
    rw [z] at g
    cases g
  · rw [if_neg h3]
    rw [if_neg h3, if_neg h1] at g
    refine if_pos ?_
    by_cases h4 : digR c r ch < 0
    · exact .inl h4
    · right
      rw [decide_eq_true (show 0 ≤ digR c r ch by omega)] at g
      have : ¬ E = 0 := fun z => by rw [decide_eq_true z] at g; cases g
      have hz : s.pn ≠ 0 := fun z => this (h.pn0.mp z)
      omega
theorem Rel.line (h2 : Rel c r A b S E col br ds s) (ok : c.Ok) (hsk : 10 ∉ r.skip) (g : goodL c (fullL c r col) (digR c r 10) E (padC c r ⟨b, S % grp c.sb, 0, E, false⟩) 10 = true) : ∃ s2, takeC c r s 10 = some ([], s2) ∧ Rel c r A b S E 0 true (ds ++ []) s2 := by
  rw [← h2.full, ← h2.pad] at g
  unfold goodL at g
  rw [if_neg (pd_10 ok), if_pos rfl, Bool.and_eq_true, Bool.or_eq_true, decide_eq_true_eq] at g
  refine ⟨⟨s.b, s.sn, 0, s.pn, true⟩, ?_, ⟨h2.b, h2.sn, fun _ => rfl, h2.pn, rfl, by rw [List.append_nil]; exact h2.chs, h2.pe⟩⟩
  unfold takeC
  rw [if_neg hsk, if_pos rfl, if_pos ⟨g.1, g.2.imp_left h2.pn0.mpr⟩]
theorem Rel.padd (h : Rel c r A b S E col br ds s) (ok : c.Ok) (hsk : ch ∉ r.skip) (hp : tx [ch] = c.pd) (g : goodL c (fullL c r col) (digR c r ch) E (padC c r ⟨b, S % grp c.sb, 0, E, false⟩) ch = true) : ∃ s2, takeC c r s ch = some ([], s2) ∧ Rel c r A b S (E + 1) (col + 1) false (ds ++ []) s2 := by
  rw [← h.full, ← h.pad] at g
  unfold goodL at g
  rw [if_pos hp, Bool.and_eq_true] at g
  have n10 : ch ≠ 10 := fun z => pd_10 ok (by rw [← z]; exact hp)
  have nf : ¬ (rowsC c r && c.full s.col) = true := fun z => by rw [z] at g; cases g.1
  refine ⟨⟨s.b, s.sn, colC c r s.col, if r.pads = Str.ofString "any" then 1 else s.pn + 1, false⟩, ?_, ⟨h.b, h.sn, fun hr => ?_, ?_, rfl, by rw [List.append_nil]; exact h.chs, fun z => ?_⟩⟩
  · unfold takeC
    rw [if_neg hsk, if_neg n10, if_neg nf, if_pos hp, if_pos g.2]
  · have := h.cl hr
    show colC c r s.col = _
    unfold colC CodeD.nxt
    rw [if_pos hr, this]
    unfold rowsC at hr
    rw [Bool.and_eq_true, decide_eq_true_eq] at hr
    rw [if_pos hr.2]
  · have := h.pn
    show (if r.pads = Str.ofString "any" then 1 else s.pn + 1) = _
    by_cases a : r.pads = Str.ofString "any"
    · rw [if_pos a, if_pos a]; omega
    · rw [if_neg a] at this
      rw [if_neg a, if_neg a, this]
  · rw [z] at hp
    cases tx_inj hp
theorem d48_b8 (n : Nat) : d48 (b8 n) = bitL n := by
  have h : ∀ m : Nat, 48 + m - 48 = m := fun m => by omega
  unfold d48 b8 bitL
  simp only [List.map_cons, List.map_nil, h]
theorem d48_app (x y : List Nat) : d48 (x ++ y) = d48 x ++ d48 y := List.map_append
theorem bin_d48 {l : List Nat} (h : Bits l) : Bn.binNum l = numL (d48 l) := by
  have e : b48 (d48 l) = l := by
    unfold b48 d48
    rw [List.map_map]
    conv => rhs; rw [← List.map_id l]
    refine List.map_congr_left fun x hx => ?_
    have := h x hx
    unfold Bn.IsBit at this
    show 48 + (x - 48) = x
    omega
  rw [← num_bin, e]
theorem Rel.sign (h : Rel c r A b S E col br ds s) (ok : c.Ok) (F : FitC c s) (hA : A.length % 8 = 0) (hsk : ch ∉ r.skip) (hp : tx [ch] ≠ c.pd) (n10 : ch ≠ 10) (g : goodL c (fullL c r col) (digR c r ch) E (padC c r ⟨b, S % grp c.sb, 0, E, false⟩) ch = true) :
    0 ≤ digR c r ch ∧ ∃ d2 s2 A' b', takeC c r s ch = some (d2, s2) ∧ Rel c r A' b' (S + 1) E (col + 1) false (ds ++ d2) s2 ∧ A' ++ d48 b' = A ++ d48 b ++ (bitL (digR c r ch).toNat).drop (8 - c.sb) ∧ A'.length % 8 = 0 ∧ b'.length < 8 ∧ Bits b' ∧ A'.length ≤ A.length + 8 := by
  rw [← h.full, ← h.pad] at g
  unfold goodL at g
  rw [if_neg hp, if_neg n10, Bool.and_eq_true, Bool.and_eq_true, decide_eq_true_eq, decide_eq_true_eq] at g
  obtain ⟨g1, g2, g3⟩ := g
  have nf : ¬ (rowsC c r && c.full s.col) = true := fun z => by rw [z] at g1; cases g1
  have p0 := h.pn0.mpr g3
  have F2 := F.on ok (digR c r ch).toNat (colC c r s.col)
  have hcol : rowsC c r = true → colC c r s.col = col + 1 := fun hr => by
    have := h.cl hr
    unfold colC CodeD.nxt
    rw [if_pos hr, this]
    unfold rowsC at hr
    rw [Bool.and_eq_true, decide_eq_true_eq] at hr
    rw [if_pos hr.2]
  have ht : takeC c r s ch = some (onC c (s.b ++ (b8 (digR c r ch).toNat).drop (8 - c.sb)) s.sn (colC c r s.col)) := by
    unfold takeC
    rw [if_neg hsk, if_neg n10, if_neg nf, if_neg hp, if_neg (by omega)]
  have hs : (s.sn + 1) % grp c.sb = (S + 1) % grp c.sb := by rw [h.sn, Nat.mod_add_mod]
  have hpn : (0 : Nat) = if r.pads = Str.ofString "any" then min 1 E else E := by rw [g3]; split <;> rfl
  have hB : Bits (s.b ++ (b8 (digR c r ch).toNat).drop (8 - c.sb)) := F.bits.app ((b8_bits _).drop _)
  have hd : d48 (s.b ++ (b8 (digR c r ch).toNat).drop (8 - c.sb)) = d48 b ++ (bitL (digR c r ch).toNat).drop (8 - c.sb) := by
    rw [d48_app, h.b, ← d48_b8]
    unfold d48
    rw [List.map_drop]
  refine ⟨g2, ?_⟩
  rw [ht]
  unfold onC at F2 ⊢
  generalize s.b ++ (b8 (digR c r ch).toNat).drop (8 - c.sb) = B at F2 hB hd ⊢
  obtain ⟨C, c1, c2, c3⟩ := h.chs
  by_cases h8 : 8 ≤ B.length
  · rw [if_pos h8] at F2 ⊢
    refine ⟨_, _, A ++ d48 (B.take 8), B.drop 8, rfl, ⟨rfl, hs, hcol, hpn, rfl, ⟨C ++ [d48 (B.take 8)], ?_, ?_, ?_⟩, h.pe⟩, ?_, ?_, F2.len, F2.bits, ?_⟩
    · rw [List.flatten_append, c1]
      simp
    · intro x hx
      rcases List.mem_append.mp hx with hx | hx
      · exact c2 x hx
      · rw [List.mem_singleton.mp hx, d48_len, List.length_take, Nat.min_eq_left h8]
    · rw [List.map_append, c3, bin_d48 (hB.take 8)]
      rfl
    · rw [List.append_assoc, ← d48_app, List.take_append_drop, hd, List.append_assoc]
    · rw [List.length_append, d48_len, List.length_take, Nat.min_eq_left h8]
      omega
    · rw [List.length_append, d48_len, List.length_take, Nat.min_eq_left h8]
      exact Nat.le_refl _
  · rw [if_neg h8] at F2 ⊢
    refine ⟨_, _, A, B, rfl, ⟨rfl, hs, hcol, hpn, rfl, by rw [List.append_nil]; exact h.chs, h.pe⟩, by rw [hd, List.append_assoc], hA, F2.len, F2.bits, Nat.le_add_right _ _⟩
end

end
section
variable {w : World} {K : PySem.W.Frag} {mg : Str → Option Value} {base : Heap}
local macro_rules | `(tactic| walk_at "hc") => `(tactic| first
  | assumption
  | ((refine CodeAt.same (H := ?xH) ?xb ?xa); (case xa => assumption); (case xb => walk_at "hc")))
local macro_rules | `(tactic| walk_at "rd0") => `(tactic| first
  | ((with_reducible refine r_get (a := ?xa) (c := ?xc) ?x1 ?x2 ?_); (case x1 => rfl); (case x2 => walk_at "hc"))
  | ((with_reducible refine r_methC (a := ?xa) (c := ?xc) ?x1 ?x2 ?x3 ?_); (case x1 => rfl); (case x2 => walk_at "hc"); (case x3 => (intro _ _ _; rfl)))
  | (with_reducible refine r_fmtB ?_)
  | (with_reducible refine r_dget ?_)
  | (with_reducible refine r_m0 ?_)
  | (with_reducible refine r_makeK ?_)
  | (with_reducible refine r_cval ?_)
  | (with_reducible refine r_sfld ?_)
  | (with_reducible refine r_isiI ?_)
  | (with_reducible refine r_isiIB ?_)
  | (with_reducible refine r_isiS ?_)
  | (with_reducible refine r_inID ?_))

local macro_rules | `(tactic| walk_at "hcr") => `(tactic| first
  | assumption
  | ((refine RulesAt.same (H := ?xH) ?xb ?xa); (case xa => assumption); (case xb => walk_at "hcr")))
local macro_rules | `(tactic| walk_at "rd0") => `(tactic| first
  | ((with_reducible refine r_getR (a := ?xa) (r := ?xr) ?x1 ?x2 ?_); (case x1 => rfl); (case x2 => walk_at "hcr")))

set_option hygiene false in
local macro_rules | `(tactic| walk_at "n1") => `(tactic| (refine And.intro (by walk_at "sz") ?_; intro p1 np1; generalize hg : upd _ p1 _ = H1; have s1 := same_of hg np1; have v1 := at_of hg; clear hg))
set_option hygiene false in
local macro_rules | `(tactic| walk_at "n2") => `(tactic| (refine And.intro (by walk_at "sz") ?_; intro p2 np2; generalize hg : upd _ p2 _ = H2; have s2 := same_of hg np2; have v2 := at_of hg; clear hg))
set_option hygiene false in
local macro_rules | `(tactic| walk_at "n3") => `(tactic| (refine And.intro (by walk_at "sz") ?_; intro p3 np3; generalize hg : upd _ p3 _ = H3; have s3 := same_of hg np3; have v3 := at_of hg; clear hg))
set_option hygiene false in
local macro_rules | `(tactic| walk_at "n4") => `(tactic| (refine And.intro (by walk_at "sz") ?_; intro p4 np4; generalize hg : upd _ p4 _ = H4; have s4 := same_of hg np4; have v4 := at_of hg; clear hg))

/-! ### the law reads a text -/
theorem chunks : ∀ (C : List (List Nat)) (t : List Nat), (∀ x ∈ C, x.length = 8) → ((List.range C.length).map fun j => numL (((C.flatten ++ t).drop (j * 8)).take 8)) = C.map numL
  | [], _, _ => rfl
  | x :: C, t, h => by
    have ih := chunks C t fun y hy => h y (List.mem_cons_of_mem _ hy)
    have hx := h x (List.mem_cons_self ..)
    rw [List.length_cons, List.range_succ_eq_map, List.map_cons, List.map_map, List.map_cons, ← ih, List.flatten_cons]
    congr 1
    · rw [Nat.zero_mul, List.drop_zero, List.append_assoc, List.take_left' hx]
    · refine List.map_congr_left fun j _ => ?_
      show numL (((x ++ C.flatten ++ t).drop ((j + 1) * 8)).take 8) = _
      rw [Nat.add_mul, Nat.one_mul, Nat.add_comm, ← List.drop_drop, List.append_assoc, List.drop_left' hx]
theorem flat8 : ∀ C : List (List Nat), (∀ x ∈ C, x.length = 8) → C.flatten.length = 8 * C.length
  | [], _ => rfl
  | x :: C, h => by
    have ih := flat8 C fun y hy => h y (List.mem_cons_of_mem _ hy)
    rw [List.flatten_cons, List.length_append, ih, h x (List.mem_cons_self ..), List.length_cons]
    omega
theorem CodeD.Ok.l64 {c : CodeD} (ok : c.Ok) : c.sg.length ≤ 64 := by
  have h2 : 2 ^ c.sb ≤ 2 ^ 6 := Nat.pow_le_pow_right (by decide) ok.b6
  have := ok.ln
  omega
def sp_l_read (T : Txt K mg) : Sp := fun vs H Q _ => ∃ p q c r l, vs = [.ref p, .ref q, .str (tx l)] ∧ TupC H p c ∧ c.New ∧ RTup H q r ∧ r.Ok ∧ l.length ≤ 12000 ∧
  (∀ ds s, folC c r opnC l = some (ds, s) → endC c r s.b s.sn s.pn s.br = true → ∀ D X H', Same H H' → H' D = some (.lst (ds.map nv)) → H' X = some (.lst [.ref D]) → Q (.ref X) H') ∧
  (∀ ds s, folC c r opnC l = some (ds, s) → endC c r s.b s.sn s.pn s.br = false → ∀ X H', Same H H' → H' X = some (.lst [.int l.length, .str (Str.ofString "end")]) → Q (.ref X) H') ∧
  ∀ i ch ds s, l[i]? = some ch → folC c r opnC (l.take i) = some (ds, s) → takeC c r s ch = none → ∀ X H', Same H H' → H' X = some (.lst [.int (i : Nat), .str (kindC c r ch)]) → Q (.ref X) H'
theorem len_l_read (T : Txt K mg) (vs : List V) (H : Hp) (Q : VK) (E : XK) (h : sp_l_read T vs H Q E) : vs.length = 3 := by
  obtain ⟨_, _, _, _, _, rfl, _⟩ := h
  rfl
def t_l_read (T : Txt K mg) : TS := (tSeq (tAsg (tTup (tCons (tLst tNil) (tCons (tC (.int 0)) (tCons (tC (.int 0)) (tCons (tC (.int 0)) (tCons (tC (.bl false)) tNil)))))) (gTup K 5 (gCons (gName 3) (gCons (gName 4) (gCons (gName 5) (gCons (gName 6) (gCons (gName 7) gNil)))))))
    (tSeq (tFor (iEnumU K (tCons (tVar 2) tNil)) (gTup K 2 (gCons (gName 8) (gCons (gName 9) gNil))) (tSeq (tIfS (tTest (tOp (rInU K) (tVar 9) (tOp (rIx K) (tVar 1) (tC (.int 1))))) tCont tNext)
    (tSeq (tAsg (tAndV (tOp (rIx K) (tVar 1) (tC (.int 2))) (tAndV (tOp rGtI (tOp (rIx K) (tVar 0) (tC (.int 2))) (tC (.int 0))) (tOp (rEqU K) (tVar 6) (tOp (rIx K) (tVar 0) (tC (.int 2)))))) (gName 10))
    (tSeq (tPar 11 12 (tCons (tCall (sp_l_digit T) [] E0 (tCons (tVar 0) (tCons (tVar 1) (tCons (tVar 9) tNil)))) (tCons (tCall (sp_l_may_pad T) [] E0 (tCons (tVar 0) (tCons (tVar 1) (tCons (tVar 3) (tCons (tVar 4) (tCons (tVar 5) tNil)))))) tNil)))
    (tSeq (tAsg (tAndV (tNotV (tVar 10)) (tAndV (tOp rGeI (tVar 11) (tC (.int 0))) (tOp (rEqU K) (tVar 5) (tC (.int 0))))) (gName 13))
    (tSeq (tIfS (tTest (tOp (rEqU K) (tVar 9) (tC (.str (Str.ofString "\n"))))) (tAsg (tAndV (tVar 10) (tOrV (tOp (rEqU K) (tVar 5) (tC (.int 0))) (tVar 12))) (gName 13)) tNext)
    (tSeq (tIfS (tTest (tOp (rEqU K) (tVar 9) (tOp (rIx K) (tVar 0) (tC (.int 1))))) (tAsg (tAndV (tNotV (tVar 10)) (tVar 12)) (gName 13)) tNext)
    (tSeq (tIfS (tNot (tB (tVar 13))) (tRet (tLst (tCons (tVar 8) (tCons (tCall (sp_l_kind T) [] E0 (tCons (tVar 0) (tCons (tVar 1) (tCons (tVar 9) tNil)))) tNil)))) tNext)
    (tSeq (tPar 7 6 (tCons (tOp (rEqU K) (tVar 9) (tC (.str (Str.ofString "\n")))) (tCons (tIf (tTest (tOp (rEqU K) (tVar 9) (tC (.str (Str.ofString "\n"))))) (tC (.int 0)) (tOp (rAddU K) (tVar 6) (tC (.int 1)))) tNil)))
    (tSeq (tIfS (tTest (tOp rGeI (tVar 11) (tC (.int 0)))) (tSeq (tAsg (tOp (rAddU K) (tVar 4) (tC (.int 1))) (gName 4))
    (tAsg (tOp (rAddU K) (tVar 3) (tSl (rSlU K) (tCall (sp_l_bits T) [] E0 (tCons (tLst (tCons (tVar 11) tNil)) tNil)) (tPart (tOp rSubI (tC (.int 8)) (tCall (sp_l_size T) [] E0 (tCons (tVar 0) tNil)))) tNoPart)) (gName 3))) tNext)
    (tAsg (tOp (rAddU K) (tVar 5) (tCB rInt1 (tCons (tOp (rEqU K) (tVar 9) (tOp (rIx K) (tVar 0) (tC (.int 1)))) tNil))) (gName 5))))))))))))
    (tSeq (tIfS (tOr (tB (tVar 7)) (tNot (tB (tCall (sp_l_may_end T) [] E0 (tCons (tVar 0) (tCons (tVar 1) (tCons (tVar 3) (tCons (tVar 4) (tCons (tVar 5) tNil))))))))) (tRet (tLst (tCons (tCB (rLenU K) (tCons (tVar 2) tNil)) (tCons (tC (.str (Str.ofString "end"))) tNil)))) tNext)
    (tRet (tLst (tCons (tLc (iRng3 (tCons (tC (.int 0)) (tCons (tOp rSubI (tCB (rLenU K) (tCons (tVar 3) tNil)) (tOp rModI (tCB (rLenU K) (tCons (tVar 3) tNil)) (tC (.int 8)))) (tCons (tC (.int 8)) tNil)))) (gName 8) tYes (tCall (sp_l_number T) [] E0 (tCons (tSl (rSlU K) (tVar 3) (tPart (tVar 8)) (tPart (tOp (rAddU K) (tVar 8) (tC (.int 8))))) tNil)) [8]) tNil))))))

theorem pure_l_read (T : Txt K mg) (vs : List V) (H : Hp) (Q : VK) (E : XK) (h : sp_l_read T vs H Q E) : t_l_read T { nx := fun _ H' => Q .non H', rt := Q } (start ["_law_code_here", "_law_ruled_here", "_law_text", "_law_bits_here", "_law_signs", "_law_ends", "_law_column", "_law_broken", "_law_at", "_law_one", "_law_full", "_law_digit_here", "_law_may_pad_here", "_law_good"] vs) H := by
  obtain ⟨p, q, c, r, l, rfl, hp, nw, hq, ro, hl, kd, ke, kw⟩ := h
  have ok := nw.1
  have hp' := hp
  have hq' := hq
  unfold TupC at hp
  unfold RTup at hq
  have sg64 := ok.l64
  have zl : (tx l).length ≤ sizeLine := smallS (by rw [tx_len]; omega)
  unfold t_l_read
  walk_at "rd"
  refine And.intro (Nat.zero_le _) fun d0 nd0 => ?_
  generalize hg : upd H d0 _ = H1
  have s1 := same_of hg nd0
  have v1 := at_of hg
  clear hg
  walk_at "rd"
  refine And.intro (by show 5 ≤ sizeLine; decide) fun t0 nt0 => ?_
  generalize hg : upd H1 t0 _ = H2
  have s2 := same_of hg nt0
  have v2 := at_of hg
  clear hg
  refine r_gtup (qt v2) rfl ?_
  walk_at "rd"
  refine r_enumS ?_
  walk_at "rd"
  refine ⟨tx l, rfl, ?_⟩
  refine f_it walk_pairs (fun i σ G => ∃ v8 v9 v10 v11 v12 v13, ∃ (d : Addr) (A b : List Nat) (S E col : Nat) (br : Bool) (ds : List Nat) (s : RC), σ = [some (.ref p), some (.ref q), some (.str (tx l)), some (.ref d), some (.int S), some (.int E), some (.int col), some (.bl br), v8, v9, v10, v11, v12, v13] ∧ Same H G ∧ AllB G d A b ∧ A.length + b.length ≤ 6 * i ∧ folC c r opnC (l.take i) = some (ds, s) ∧ FitC c s ∧ Rel c r A b S E col br ds s)
    ⟨_, _, _, _, _, _, d0, [], [], 0, 0, 0, false, [], opnC, rfl, s1.trans s2, ⟨s2 _ _ v1, rfl, by decide, (fun x h => nomatch h), Nat.zero_le _⟩, Nat.le_refl _, rfl, FitC.opn ok, Rel.opn c r⟩ (fun _ _ _ _ _ => trivial) ?_ ?_
  · rintro i x σ G G' hi ⟨v8, v9, v10, v11, v12, v13, d, A, b, S, E, col, br, ds, s, rfl, sG, hd, hlen, hfo, F, hR⟩ ⟨Tp, u, w, rfl, nT, hG', ea, eb⟩
    have hsT := same_of hG'.symm nT
    have hvT := at_of hG'.symm
    clear hG'
    cases ea
    unfold sgn at eb
    obtain ⟨ch, hch, rfl⟩ := Option.map_eq_some_iff.mp eb
    have hli : l[i]? = some ch := by
      have e : (tx l).cps[i]? = l[i]? := by simp [tx]
      rw [← e]
      exact hch
    have hil : i < l.length := (List.getElem?_eq_some_iff.mp hli).1
    have sn := folC_snoc hli hfo
    have sG' := sG.trans hsT
    have hpG := sG' _ _ hp
    have hqG := sG' _ _ hq
    have hdG := hd.same hsT
    refine r_gtup (qt hvT) rfl ?_
    walk_at "rd"
    refine r_inC ?_
    rw [tx_list]
    by_cases hsk : ch ∈ r.skip
    · rw [decide_eq_true hsk]
      have e : takeC c r s ch = some ([], s) := by unfold takeC; rw [if_pos hsk]
      walk_at "rd"
      refine ⟨_, _, _, _, _, _, d, A, b, S, E, col, br, ds ++ [], s, rfl, sG', hdG, by omega, sn.2 _ _ e, F, by rw [List.append_nil]; exact hR⟩
    rw [decide_eq_false hsk]
    walk_at "rx"
    refine r_seqC (fun σ G2 => σ = [some (.ref p), some (.ref q), some (.str (tx l)), some (.ref d), some (.int S), some (.int E), some (.int col), some (.bl br), some (.int i), some (.str (tx [ch])), some (.bl (fullL c r col)), v11, v12, v13] ∧ G2 = G') ?_ fun N tail => ?_
    rotate_left
    · have fin : ∀ v, v = fullL c r col → N [some (.ref p), some (.ref q), some (.str (tx l)), some (.ref d), some (.int S), some (.int E), some (.int col), some (.bl br), some (.int i), some (.str (tx [ch])), some (.bl v), v11, v12, v13] G' := fun v e => tail _ _ ⟨by rw [e], rfl⟩
      unfold fullL at fin
      walk_at "rd"
      cases hli2 : r.lines with
      | false =>
        rw [hli2] at fin
        walk_at "rd"
        exact fin false rfl
      | true =>
        rw [hli2, Bool.true_and] at fin
        walk_at "rd"
        refine r_iteD (fun h1 => ?_) (fun h1 => ?_)
        · walk_at "rd"
          exact fin _ (by rw [decide_eq_true (show 0 < c.wd by omega), Bool.true_and]; exact decide_eq_decide.mpr (by omega))
        · walk_at "rd"
          exact fin _ (by rw [decide_eq_false (show ¬ 0 < c.wd by omega)]; rfl)
    rintro σ G2 ⟨rfl, rfl⟩
    walk_at "rd"
    refine ⟨p, q, c, r, ch, rfl, hpG, hqG, nw.2.1, sg64, ?_⟩
    walk_at "rd"
    refine ⟨p, q, d, c, r, A, b, S, E, rfl, hpG, ok, hqG, hdG, fun G3 s3 => ?_⟩
    refine ⟨_, _, rfl, ?_⟩
    have hpG := s3 _ _ hpG
    have hqG := s3 _ _ hqG
    have hdG := hdG.same s3
    have sG' := sG'.trans s3
    have gd : ∀ g, g = goodL c (fullL c r col) (digR c r ch) E (padC c r ⟨b, S % grp c.sb, 0, E, false⟩) ch → (g = false → takeC c r s ch = none) := fun g e h => hR.bad ok hsk (by rw [← e]; exact h)
    have g1 := fun e : tx [ch] = c.pd => hR.padd ok hsk e
    have g2 := fun e : ch = 10 => hR.line ok (e ▸ hsk)
    have g3 := fun (e1 : tx [ch] ≠ c.pd) (e2 : ch ≠ 10) => hR.sign ok F hdG.2.1 hsk e1 e2
    have dlt := digR_lt ok r ch
    have d10 := dig_10 ok r
    have dpd := fun e : tx [ch] = c.pd => dig_pd nw r e
    generalize hfl : fullL c r col = fl at gd g1 g2 g3 ⊢
    generalize hdg : digR c r ch = dg at gd g1 g3 dlt dpd ⊢
    generalize hmp : padC c r ⟨b, S % grp c.sb, 0, E, false⟩ = mp at gd g1 g2 g3 ⊢
    walk_at "rx"
    refine r_seqC (fun σ G2 => σ = [some (.ref p), some (.ref q), some (.str (tx l)), some (.ref d), some (.int S), some (.int E), some (.int col), some (.bl br), some (.int i), some (.str (tx [ch])), some (.bl fl), some (.int dg), some (.bl mp), some (.bl (!fl && (decide (0 ≤ dg) && decide (E = 0))))] ∧ G2 = G3) ?_ fun N tail => ?_
    rotate_left
    · have fin : ∀ v, v = (!fl && (decide (0 ≤ dg) && decide (E = 0))) → N [some (.ref p), some (.ref q), some (.str (tx l)), some (.ref d), some (.int S), some (.int E), some (.int col), some (.bl br), some (.int i), some (.str (tx [ch])), some (.bl fl), some (.int dg), some (.bl mp), some (.bl v)] G3 := fun v e => tail _ _ ⟨by rw [e], rfl⟩
      cases fl with
      | true =>
        walk_at "rd"
        exact fin _ rfl
      | false =>
        walk_at "rd"
        refine r_iteD (fun h1 => ?_) (fun h1 => ?_)
        · walk_at "rd"
          exact fin _ (by rw [decide_eq_true (show 0 ≤ dg by omega)]; exact decide_eq_decide.mpr (by omega))
        · walk_at "rd"
          exact fin _ (by rw [decide_eq_false (show ¬ 0 ≤ dg by omega)]; rfl)
    rintro σ G2 ⟨rfl, rfl⟩
    refine r_seqC (fun σ G3 => σ = [some (.ref p), some (.ref q), some (.str (tx l)), some (.ref d), some (.int S), some (.int E), some (.int col), some (.bl br), some (.int i), some (.str (tx [ch])), some (.bl fl), some (.int dg), some (.bl mp), some (.bl (if ch = 10 then fl && (decide (E = 0) || mp) else !fl && (decide (0 ≤ dg) && decide (E = 0))))] ∧ G3 = G2) ?_ fun N tail => ?_
    rotate_left
    · have fin : ∀ v, v = (if ch = 10 then fl && (decide (E = 0) || mp) else !fl && (decide (0 ≤ dg) && decide (E = 0))) → N [some (.ref p), some (.ref q), some (.str (tx l)), some (.ref d), some (.int S), some (.int E), some (.int col), some (.bl br), some (.int i), some (.str (tx [ch])), some (.bl fl), some (.int dg), some (.bl mp), some (.bl v)] G2 := fun v e => tail _ _ ⟨by rw [e], rfl⟩
      walk_at "rd"
      refine r_iteD (fun h1 => ?_) (fun h1 => ?_)
      · have h10 := (tx1_nl ch).mp h1
        cases fl with
        | false =>
          walk_at "rd"
          exact fin _ (by rw [if_pos h10]; rfl)
        | true =>
          walk_at "rd"
          refine r_iteD (fun h2 => ?_) (fun h2 => ?_)
          · walk_at "rd"
            exact fin _ (by rw [if_pos h10, decide_eq_true (show E = 0 by omega)]; rfl)
          · walk_at "rd"
            exact fin _ (by rw [if_pos h10, decide_eq_false (show ¬ E = 0 by omega)]; rfl)
      · walk_at "rd"
        exact fin _ (by rw [if_neg (fun z => h1 ((tx1_nl ch).mpr z))])
    rintro σ G4 ⟨rfl, rfl⟩
    refine r_seqC (fun σ G3 => σ = [some (.ref p), some (.ref q), some (.str (tx l)), some (.ref d), some (.int S), some (.int E), some (.int col), some (.bl br), some (.int i), some (.str (tx [ch])), some (.bl fl), some (.int dg), some (.bl mp), some (.bl (goodL c fl dg E mp ch))] ∧ G3 = G4) ?_ fun N tail => ?_
    rotate_left
    · have fin : ∀ v, v = goodL c fl dg E mp ch → N [some (.ref p), some (.ref q), some (.str (tx l)), some (.ref d), some (.int S), some (.int E), some (.int col), some (.bl br), some (.int i), some (.str (tx [ch])), some (.bl fl), some (.int dg), some (.bl mp), some (.bl v)] G4 := fun v e => tail _ _ ⟨by rw [e], rfl⟩
      walk_at "rd"
      refine r_iteD (fun h1 => ?_) (fun h1 => ?_)
      · cases fl with
        | true =>
          walk_at "rd"
          exact fin _ (by unfold goodL; rw [if_pos h1]; rfl)
        | false =>
          walk_at "rd"
          exact fin _ (by unfold goodL; rw [if_pos h1]; rfl)
      · walk_at "rd"
        exact fin _ (by unfold goodL; rw [if_neg h1])
    rintro σ G5 ⟨rfl, rfl⟩
    walk_at "rd"
    cases hg : goodL c fl dg E mp ch with
    | false =>
      walk_at "rd"
      refine ⟨p, q, c, r, ch, rfl, hpG, hqG, nw.2.1, sg64, ?_⟩
      walk_at "rd"
      refine And.intro (by show 2 ≤ sizeLine; decide) fun X nX => ?_
      generalize hgx : upd _ X _ = HX
      have sX := same_of hgx nX
      have vX := at_of hgx
      clear hgx
      exact kw i ch ds s hli hfo (gd _ rfl hg) X HX (sG'.trans sX) vX
    | true =>
      walk_at "rx"
      refine r_seqC (fun σ G2 => ∃ br' : Bool, ∃ col' : Nat, σ = [some (.ref p), some (.ref q), some (.str (tx l)), some (.ref d), some (.int S), some (.int E), some (.int col'), some (.bl br'), some (.int i), some (.str (tx [ch])), some (.bl fl), some (.int dg), some (.bl mp), some (.bl true)] ∧ G2 = G5 ∧ (ch = 10 → br' = true ∧ col' = 0) ∧ (ch ≠ 10 → br' = false ∧ col' = col + 1)) ?_ fun N tail => ?_
      rotate_left
      · walk_at "rd"
        refine r_iteD (fun h1 => ?_) (fun h1 => ?_)
        · have e1 : decide (tx [ch] = Str.ofString "\n") = true := decide_eq_true h1
          walk_at "rd"
          refine tail _ _ ⟨decide (tx [ch] = Str.ofString "\n"), 0, rfl, rfl, fun _ => ⟨e1, rfl⟩, fun z => absurd ((tx1_nl ch).mp h1) z⟩
        · have e1 : decide (tx [ch] = Str.ofString "\n") = false := decide_eq_false h1
          walk_at "rd"
          refine tail _ _ ⟨decide (tx [ch] = Str.ofString "\n"), col + 1, rfl, rfl, fun z => absurd ((tx1_nl ch).mpr z) h1, fun _ => ⟨e1, rfl⟩⟩
      rintro σ G6 ⟨br', col', rfl, rfl, c1, c2⟩
      by_cases hs : 0 ≤ dg
      · have n10 : ch ≠ 10 := fun z => by
          subst z
          omega
        have npd : tx [ch] ≠ c.pd := fun z => by
          have := dpd z
          omega
        obtain ⟨rfl, rfl⟩ := c2 n10
        obtain ⟨_, d2, s2, A', b', e1, R2, e2, hA', hb', bb', hA2⟩ := g3 npd n10 hg
        have F2 := F.take ok e1
        walk_at "rd"
        refine r_iteD (fun _ => ?_) (fun h => absurd hs (by omega))
        walk_at "rd"
        refine And.intro (by show 1 ≤ sizeLine; decide) fun lg nlg => ?_
        generalize hgx : upd _ lg _ = H7
        have s7 := same_of hgx nlg
        have v7 : H7 lg = some (.lst (([dg] : List Int).map V.int)) := at_of hgx
        clear hgx
        walk_at "rd"
        refine ⟨lg, [dg], rfl, v7, by show 1 ≤ 600; decide, fun x hx => by rw [List.mem_singleton.mp hx]; omega, fun lb H8 s8 v8 => ?_⟩
        have s78 := s7.trans s8
        have eb : bitsL [dg] = bitL dg.toNat := by unfold bitsL; rw [List.flatMap_cons, List.flatMap_nil, List.append_nil]
        rw [eb] at v8
        walk_at "rd"
        refine ⟨p, c.sg, c.pd, c.wd, c.sb, rfl, s78 _ _ hpG, ok.ln, ok.b1, ok.b6, fun H9 s9 => ?_⟩
        have s79 := s78.trans s9
        have v9 := s9 _ _ v8
        have ob1 := ok.b1
        have ob6 := ok.b6
        have bl8 : (bitL dg.toNat).length = 8 := rfl
        walk_at "rd"
        refine r_slUL (ql v9) ?_
        intro l3 nl3
        rw [show (8 : Int) - (c.sb : Int) = ((8 - c.sb : Nat) : Int) by omega, cutV_from (by rw [List.length_map, bl8]; omega), ← List.map_drop]
        generalize hgx : upd _ l3 _ = HA
        have sA := same_of hgx nl3
        have vA := at_of hgx
        clear hgx
        have s7A := s79.trans sA
        have dA := hdG.same s7A
        have lb8 : ((bitL dg.toNat).drop (8 - c.sb)).length = c.sb := by rw [List.length_drop, bl8]; omega
        refine r_addUL dA.1 vA (by rw [List.length_map, List.length_map, List.length_append, d48_len, lb8]; exact smallS (by omega)) fun l2 nl2 => ?_
        generalize hgx : upd _ l2 _ = HB
        have sB := same_of hgx nl2
        have vB := at_of hgx
        clear hgx
        rw [← List.map_append, ← e2] at vB
        have s7B := s7A.trans sB
        have hpB := s7B _ _ hpG
        have el : A'.length + b'.length = A.length + b.length + c.sb := by
          have := congrArg List.length e2
          rw [List.length_append, d48_len, List.length_append, List.length_append, d48_len, lb8] at this
          exact this
        walk_at "rd"
        rw [decide_eq_false npd]
        refine r_int1B ?_
        walk_at "rd"
        refine ⟨some (.int i), some (.str (tx [ch])), some (.bl fl), some (.int dg), some (.bl mp), some (.bl true), l2, A', b', S + 1, E, col + 1, false, ds ++ d2, s2, ?_, sG'.trans s7B, ⟨vB, hA', hb', bb', by omega⟩, by omega, sn.2 _ _ e1, F2, R2⟩
        rfl
      · walk_at "rd"
        refine r_iteD (fun h => absurd h (by omega)) (fun _ => ?_)
        walk_at "rd"
        by_cases hpd : tx [ch] = c.pd
        · have n10 : ch ≠ 10 := fun z => pd_10 ok (by rw [← z]; exact hpd)
          obtain ⟨rfl, rfl⟩ := c2 n10
          obtain ⟨s2, e1, R2⟩ := g1 hpd hg
          rw [decide_eq_true hpd]
          refine r_int1B ?_
          walk_at "rd"
          refine ⟨some (.int i), some (.str (tx [ch])), some (.bl fl), some (.int dg), some (.bl mp), some (.bl true), d, A, b, S, E + 1, col + 1, false, ds ++ [], s2, ?_, sG', hdG, by omega, sn.2 _ _ e1, F.take ok e1, R2⟩
          rfl
        · by_cases h10 : ch = 10
          · obtain ⟨rfl, rfl⟩ := c1 h10
            subst h10
            obtain ⟨s2, e1, R2⟩ := g2 rfl hg
            rw [decide_eq_false hpd]
            refine r_int1B ?_
            walk_at "rd"
            refine ⟨some (.int i), some (.str (tx [10])), some (.bl fl), some (.int dg), some (.bl mp), some (.bl true), d, A, b, S, E, 0, true, ds ++ [], s2, ?_, sG', hdG, by omega, sn.2 _ _ e1, F.take ok e1, R2⟩
            rfl
          · exfalso
            unfold goodL at hg
            rw [if_neg hpd, if_neg h10, decide_eq_false hs, Bool.false_and, Bool.and_false] at hg
            cases hg
  · rintro σ G ⟨v8, v9, v10, v11, v12, v13, d, A, b, S, E, col, br, ds, s, rfl, sG, hd, hlen, hfo, F, hR⟩
    rw [show (tx l).cps.size = l.length by simp [tx], List.take_length] at hfo
    have fe := hR.fin
    have hpG := sG _ _ hp
    have hqG := sG _ _ hq
    have bad : ∀ G', Same H G' → endC c r s.b s.sn s.pn s.br = false → ∀ (X : Addr), G' X = none → Q (.ref X) (upd G' X (.lst [.int ((tx l).length : Nat), .str (Str.ofString "end")])) := fun G' s' he X nX => by
      generalize hgx : upd _ X _ = HX
      have sX := same_of hgx nX
      have vX := at_of hgx
      clear hgx
      rw [tx_len] at vX
      exact ke ds s hfo he X HX (s'.trans sX) vX
    walk_at "rd"
    cases br with
    | true =>
      walk_at "rd"
      refine r_lenUS zl ?_
      walk_at "rd"
      refine And.intro (by show 2 ≤ sizeLine; decide) fun X nX => ?_
      exact bad _ sG (fe.trans (if_pos rfl)) X nX
    | false =>
      have fe2 : endC c r s.b s.sn s.pn s.br = endC c r b (S % grp c.sb) E false := fe.trans (if_neg Bool.false_ne_true)
      walk_at "rd"
      refine ⟨p, q, d, c, r, A, b, S, E, rfl, hpG, ok, hqG, hd, hR.pe, ro.pd, fun G3 s3 => ?_⟩
      have sG3 := sG.trans s3
      cases he : endC c r b (S % grp c.sb) E false with
      | false =>
        walk_at "rd"
        refine r_lenUS zl ?_
        walk_at "rd"
        refine And.intro (by show 2 ≤ sizeLine; decide) fun X nX => ?_
        exact bad _ sG3 (fe2.trans he) X nX
      | true =>
        have hd3 := (hd.same s3).1
        obtain ⟨C, c1, c2, c3⟩ := hR.chs
        have la : A.length = 8 * C.length := by rw [c1]; exact flat8 C c2
        have hb8 := hd.2.2.1
        have hA96 := hd.2.2.2.2
        have ll : ((A ++ d48 b).map nv).length = A.length + b.length := by rw [List.length_map, List.length_append, d48_len]
        walk_at "rd"
        refine r_rng3 ?_
        walk_at "rd"
        rw [ll, show (((A.length + b.length : Nat) : Int)) - (((A.length + b.length : Nat) : Int)).fmod 8 = ((A.length : Nat) : Int) by rw [Int.fmod_eq_emod_of_nonneg _ (by decide)]; omega]
        refine ⟨0, _, _, _, rfl, rgc_n (L := A.length) (m := 8) (by omega) (by decide) (by omega), fun D nD => ?_⟩
        refine c_it walk_rangeC (fun i G => G D = some (.lst (((List.range i).map fun j => numL (((A ++ d48 b).drop (j * 8)).take 8)).map fun n : Nat => V.int n)) ∧ Same G3 G) ⟨upd_same, same_new nD⟩ (fun _ _ _ _ => trivial) ?_ ?_
        · rintro i x G G' hi ⟨hD, sG4⟩ ⟨rfl, rfl⟩
          have v6' := sG4 _ _ hd3
          have him := turns_le (by decide) hi
          walk_at "rd"
          refine ⟨rfl, ?_⟩
          walk_at "rd"
          refine r_slUL (ql v6') ?_
          intro l3 nl3
          rw [show (0 : Int) + ((i : Nat) : Int) * (8 : Int) = ((i * 8 : Nat) : Int) by rw [Int.zero_add, Int.natCast_mul]; rfl]
          have ec : cutV (List.map nv (A ++ d48 b)) (some ((i * 8 : Nat) : Int)) (some (((i * 8 : Nat) : Int) + 8)) = ((List.map nv (A ++ d48 b)).drop (i * 8)).take 8 := cutV_mid (m := 8) (by rw [ll]; omega)
          rw [ec, ← List.map_drop, ← List.map_take]
          generalize hg7 : upd _ l3 _ = H7
          have s7 := same_of hg7 nl3
          have v7 := at_of hg7
          clear hg7
          walk_at "rd"
          refine ⟨l3, _, rfl, v7, ?_⟩
          refine ⟨_, s7 _ _ hD, ?_, ?_, same_mut (sG4.trans s7) nD⟩
          · rw [List.length_map, List.length_map, List.length_range]
            exact Nat.lt_of_le_of_lt (show i ≤ 100000 by omega) (by rw [sizeLine_eq]; decide)
          · rw [upd_same, List.range_succ, List.map_append, List.map_append]
            rfl
        · rintro G ⟨hD, sG4⟩
          have e8 : (A.length + 8 - 1) / 8 = C.length := by omega
          rw [e8, c1, chunks C _ c2, ← c3] at hD
          walk_at "rd"
          refine And.intro (by show 1 ≤ sizeLine; decide) fun X nX => ?_
          generalize hgx : upd _ X _ = HX
          have sX := same_of hgx nX
          have vX := at_of hgx
          clear hgx
          exact kd ds s hfo (fe2.trans he) D X HX ((sG3.trans sG4).trans sX) (sX _ _ hD) vX
theorem ok_l_read (T : Txt K mg) : FnOk P w K mg base CX0 4 T.l_read_a T.l_read_d ["_law_code_here", "_law_ruled_here", "_law_text"] (sp_l_read T) := by
  refine T.l_read_f.ok sc_l_read (fun vs H Q E h => len_l_read T vs H Q E h) (fun cdv A outer s H vs Q E hr h => ⟨t_l_read T, PSs.nox ?_, pure_l_read T vs H Q E h⟩)
  have hu := hu64 hr
  exact (pss_cons (ps_asg (pe_tup (pa_cons (pe_lst pa_nil) (pa_cons pe_int (pa_cons pe_int (pa_cons pe_int (pa_cons pe_bl pa_nil)))))) (pg_tup (by rfl) (pgs_cons (pg_name (i := 3) sc_l_read.nd rfl (.inr rfl)) (pgs_cons (pg_name (i := 4) sc_l_read.nd rfl (.inl rfl)) (pgs_cons (pg_name (i := 5) sc_l_read.nd rfl (.inl rfl)) (pgs_cons (pg_name (i := 6) sc_l_read.nd rfl (.inl rfl)) (pgs_cons (pg_name (i := 7) sc_l_read.nd rfl (.inl rfl)) pgs_nil)))))))
      (pss_cons (ps_for PassesOwn.never rfl (pi_enumU (by rfl) T.n_enumerate (pa_cons (pv 2) pa_nil)) (pg_tup (by rfl) (pgs_cons (pg_name (i := 8) sc_l_read.nd rfl (.inl rfl)) (pgs_cons (pg_name (i := 9) sc_l_read.nd rfl (.inl rfl)) pgs_nil))) (pss_cons (ps_if (pt_cmpR op_inU (pv 9) (pe_ix ix_seq (pv 1) pe_int (fun _ _ => rfl)) (by rfl)) (pss_one ps_continue) pss_nil)
      (pss_cons (ps_set (i := 10) sc_l_read.nd rfl (.inl rfl) (pe_and (pe_ix ix_seq (pv 1) pe_int (fun _ _ => rfl)) (pe_and (pe_cmpR op_gt (pe_ix ix_seq (pv 0) pe_int (fun _ _ => rfl)) pe_int (nomark _)) (pe_one (pe_cmpR (op_eqU hu) (pv 6) (pe_ix ix_seq (pv 0) pe_int (fun _ _ => rfl)) (nomark _))))))
      (pss_cons (ps_par (i := 11) (j := 12) (by rfl) sc_l_read.nd rfl rfl (by decide) rfl rfl (pa_cons (pe_call (ok_l_digit T) (hr.mono (by decide)) (by rfl) T.l_digit_g T.l_digit_f.kp T.l_digit_b .nil pass0 (pa_cons (pv 0) (pa_cons (pv 1) (pa_cons (pv 9) pa_nil)))) (pa_cons (pe_call (ok_l_may_pad T) (hr.mono (by decide)) (by rfl) T.l_may_pad_g T.l_may_pad_f.kp T.l_may_pad_b .nil pass0 (pa_cons (pv 0) (pa_cons (pv 1) (pa_cons (pv 3) (pa_cons (pv 4) (pa_cons (pv 5) pa_nil)))))) pa_nil)) (by rfl))
      (pss_cons (ps_set (i := 13) sc_l_read.nd rfl (.inl rfl) (pe_and (pe_not (pv 10)) (pe_and (pe_cmpR op_ge (pv 11) pe_int (nomark _)) (pe_one (pe_cmpR (op_eqU hu) (pv 5) pe_int (nomark _))))))
      (pss_cons (ps_if (pt_cmpR (op_eqU hu) (pv 9) pe_str (nomark _)) (pss_one (ps_set (i := 13) sc_l_read.nd rfl (.inl rfl) (pe_and (pv 10) (pe_one (pe_or (pe_cmpR (op_eqU hu) (pv 5) pe_int (nomark _)) (pe_one (pv 12))))))) pss_nil)
      (pss_cons (ps_if (pt_cmpR (op_eqU hu) (pv 9) (pe_ix ix_seq (pv 0) pe_int (fun _ _ => rfl)) (nomark _)) (pss_one (ps_set (i := 13) sc_l_read.nd rfl (.inl rfl) (pe_and (pe_not (pv 10)) (pe_one (pv 12))))) pss_nil)
      (pss_cons (ps_if (pt_not (pt_val (pv 13))) (pss_one (ps_ret (pe_lst (pa_cons (pv 8) (pa_cons (pe_call (ok_l_kind T) (hr.mono (by decide)) (by rfl) T.l_kind_g T.l_kind_f.kp T.l_kind_b .nil pass0 (pa_cons (pv 0) (pa_cons (pv 1) (pa_cons (pv 9) pa_nil)))) pa_nil))))) pss_nil)
      (pss_cons (ps_par (i := 7) (j := 6) (by rfl) sc_l_read.nd rfl rfl (by decide) rfl rfl (pa_cons (pe_cmpR (op_eqU hu) (pv 9) pe_str (nomark _)) (pa_cons (pe_ifExp (pt_cmpR (op_eqU hu) (pv 9) pe_str (nomark _)) pe_int (pe_op op_addU (pv 6) pe_int)) pa_nil)) (by rfl))
      (pss_cons (ps_if (pt_cmpR op_ge (pv 11) pe_int (nomark _)) (pss_cons (ps_set (i := 4) sc_l_read.nd rfl (.inl rfl) (pe_op op_addU (pv 4) pe_int))
      (pss_one (ps_set (i := 3) sc_l_read.nd rfl (.inr rfl) (pe_op op_addU (pv 3) (pe_slice sl_U (pe_call (ok_l_bits T) (hr.mono (by decide)) (by rfl) T.l_bits_g T.l_bits_f.kp T.l_bits_b .nil pass0 (pa_cons (pe_lst (pa_cons (pv 11) pa_nil)) pa_nil)) (po_some (pe_op op_sub pe_int (pe_call (ok_l_size T) (hr.mono (by decide)) (by rfl) T.l_size_g T.l_size_f.kp T.l_size_b .nil pass0 (pa_cons (pv 0) pa_nil)))) po_none))))) pss_nil)
      (pss_one (ps_set (i := 5) sc_l_read.nd rfl (.inl rfl) (pe_op op_addU (pv 5) (pe_callTy call_int1 (by rfl) T.n_int (by decide +kernel) (pa_cons (pe_cmpR (op_eqU hu) (pv 9) (pe_ix ix_seq (pv 0) pe_int (fun _ _ => rfl)) (nomark _)) pa_nil)))))))))))))))
      (pss_cons (ps_if (PW.pt (pw_or (pt_val (pv 7)) (pw_or1 (pt_not (pt_val (pe_call (ok_l_may_end T) (hr.mono (by decide)) (by rfl) T.l_may_end_g T.l_may_end_f.kp T.l_may_end_b .nil pass0 (pa_cons (pv 0) (pa_cons (pv 1) (pa_cons (pv 3) (pa_cons (pv 4) (pa_cons (pv 5) pa_nil))))))))))) (pss_one (ps_ret (pe_lst (pa_cons (pe_callB c_lenU (by rfl) T.n_len (by decide +kernel) (pa_cons (pv 2) pa_nil)) (pa_cons pe_str pa_nil))))) pss_nil)
      (pss_one (ps_ret (pe_lst (pa_cons (pe_lc (own := [("_law_at", 8)]) (g := (gName 8)) (tt := tYes) rfl sc_l_read.nd (pi_range3 (by rfl) T.n_range (pa_cons pe_int (pa_cons (pe_op op_sub (pe_callB c_lenU (by rfl) T.n_len (by decide +kernel) (pa_cons (pv 3) pa_nil)) (pe_op op_modN (pe_callB c_lenU (by rfl) T.n_len (by decide +kernel) (pa_cons (pv 3) pa_nil)) pe_int)) (pa_cons pe_int pa_nil)))) (blkOk_by (own := [("_law_at", 8)]) (N := ["_law_code_here", "_law_ruled_here", "_law_text", "_law_bits_here", "_law_signs", "_law_ends", "_law_column", "_law_broken", "_law_at", "_law_one", "_law_full", "_law_digit_here", "_law_may_pad_here", "_law_good"]) (sc := defScope s_l_read) (by decide +kernel)) (fun _ _ _ _ _ => (pg_name (i := 8) sc_l_read.nd rfl (.inl rfl))) (fun _ _ _ _ _ => pts_nil) (fun _ _ _ _ _ => (pe_call (ok_l_number T) (hr.mono (by decide)) (by rfl) T.l_number_g T.l_number_f.kp T.l_number_b .nil pass0 (pa_cons (pe_slice sl_U (pv 3) (po_some (pv 8)) (po_some (pe_op op_addU (pv 8) pe_int))) pa_nil)))) pa_nil)))))))


end
section
variable {w : World} {K : PySem.W.Frag} {mg : Str → Option Value} {base : Heap}
local macro_rules | `(tactic| walk_at "hc") => `(tactic| first
  | assumption
  | ((refine CodeAt.same (H := ?xH) ?xb ?xa); (case xa => assumption); (case xb => walk_at "hc")))
local macro_rules | `(tactic| walk_at "rd0") => `(tactic| first
  | ((with_reducible refine r_get (a := ?xa) (c := ?xc) ?x1 ?x2 ?_); (case x1 => rfl); (case x2 => walk_at "hc"))
  | ((with_reducible refine r_methC (a := ?xa) (c := ?xc) ?x1 ?x2 ?x3 ?_); (case x1 => rfl); (case x2 => walk_at "hc"); (case x3 => (intro _ _ _; rfl)))
  | (with_reducible refine r_fmtB ?_)
  | (with_reducible refine r_dget ?_)
  | (with_reducible refine r_m0 ?_)
  | (with_reducible refine r_makeK ?_)
  | (with_reducible refine r_cval ?_)
  | (with_reducible refine r_sfld ?_)
  | (with_reducible refine r_isiI ?_)
  | (with_reducible refine r_isiIB ?_)
  | (with_reducible refine r_isiS ?_)
  | (with_reducible refine r_inID ?_))

local macro_rules | `(tactic| walk_at "hcr") => `(tactic| first
  | assumption
  | ((refine RulesAt.same (H := ?xH) ?xb ?xa); (case xa => assumption); (case xb => walk_at "hcr")))
local macro_rules | `(tactic| walk_at "rd0") => `(tactic| first
  | ((with_reducible refine r_getR (a := ?xa) (r := ?xr) ?x1 ?x2 ?_); (case x1 => rfl); (case x2 => walk_at "hcr")))

set_option hygiene false in
local macro_rules | `(tactic| walk_at "n1") => `(tactic| (refine And.intro (by walk_at "sz") ?_; intro p1 np1; generalize hg : upd _ p1 _ = H1; have s1 := same_of hg np1; have v1 := at_of hg; clear hg))
set_option hygiene false in
local macro_rules | `(tactic| walk_at "n2") => `(tactic| (refine And.intro (by walk_at "sz") ?_; intro p2 np2; generalize hg : upd _ p2 _ = H2; have s2 := same_of hg np2; have v2 := at_of hg; clear hg))
set_option hygiene false in
local macro_rules | `(tactic| walk_at "n3") => `(tactic| (refine And.intro (by walk_at "sz") ?_; intro p3 np3; generalize hg : upd _ p3 _ = H3; have s3 := same_of hg np3; have v3 := at_of hg; clear hg))
set_option hygiene false in
local macro_rules | `(tactic| walk_at "n4") => `(tactic| (refine And.intro (by walk_at "sz") ?_; intro p4 np4; generalize hg : upd _ p4 _ = H4; have s4 := same_of hg np4; have v4 := at_of hg; clear hg))

/-! ### a right text is spelt -/
theorem num_lt (l : List Nat) (h : ∀ x ∈ l, x ≤ 1) : numL l < 2 ^ l.length := by
  have g : ∀ (l : List Nat) (a : Nat), (∀ x ∈ l, x ≤ 1) → l.foldl (fun t b => 2 * t + b) a < (a + 1) * 2 ^ l.length := by
    intro l
    induction l with
    | nil => intro a _; simp
    | cons x l ih =>
      intro a h
      have := ih (2 * a + x) fun y hy => h y (List.mem_cons_of_mem _ hy)
      have hx := h x (List.mem_cons_self ..)
      rw [List.foldl_cons, List.length_cons, Nat.pow_succ]
      refine Nat.lt_of_lt_of_le this ?_
      have : 2 * a + x + 1 ≤ (a + 1) * 2 := by omega
      calc (2 * a + x + 1) * 2 ^ l.length ≤ ((a + 1) * 2) * 2 ^ l.length := Nat.mul_le_mul_right _ this
        _ = (a + 1) * (2 ^ l.length * 2) := by rw [Nat.mul_assoc, Nat.mul_comm 2]
  have := g l 0 h
  rw [Nat.zero_add, Nat.one_mul] at this
  exact this
theorem num_zeros (l : List Nat) : ∀ k, numL (l ++ List.replicate k 0) = numL l * 2 ^ k
  | 0 => by simp
  | k + 1 => by
    have e : numL l * (2 ^ k * 2) = numL l * 2 ^ k * 2 := (Nat.mul_assoc ..).symm
    rw [List.replicate_succ', ← List.append_assoc, num_snoc, num_zeros l k, Nat.pow_succ, e]
    omega
theorem chk_mem {k : Nat} (h : 0 < k) : ∀ (n : Nat) (l : List Nat), l.length ≤ n → ∀ x ∈ chk k l, x.length ≤ k ∧ ∀ y ∈ x, y ∈ l
  | 0, l, hl, x, hx => by
    rw [List.eq_nil_of_length_eq_zero (Nat.le_zero.mp hl), chk_nil h] at hx
    cases hx
  | n + 1, l, hl, x, hx => by
    by_cases e : l = []
    · rw [e, chk_nil h] at hx
      cases hx
    · rw [chk_cons h e] at hx
      rcases List.mem_cons.mp hx with rfl | hx
      · exact ⟨by rw [List.length_take]; omega, fun y hy => List.mem_of_mem_take hy⟩
      · have l1 : 1 ≤ l.length := Nat.pos_of_ne_zero fun z => e (List.eq_nil_of_length_eq_zero z)
        have := chk_mem h n (l.drop k) (by rw [List.length_drop]; omega) x hx
        exact ⟨this.1, fun y hy => List.mem_of_mem_drop (this.2 y hy)⟩
theorem chk_last {k : Nat} (h : 0 < k) (z : Nat) (hz : z < k) : ∀ (m : Nat) (l : List Nat), l.length + z = k * (m + 1) → ∃ x, (chk k (l ++ List.replicate z 0)).getLast? = some (x ++ List.replicate z 0) ∧ x.length + z = k ∧ ∀ y ∈ x, y ∈ l
  | 0, l, hl => by
    have e : (l ++ List.replicate z 0).length = k := by rw [List.length_append, List.length_replicate, hl]; omega
    refine ⟨l, ?_, by omega, fun y hy => hy⟩
    rw [chk_cons h (fun q => by rw [q] at e; simp at e; omega), List.take_of_length_le (by omega), List.drop_of_length_le (by omega), chk_nil h]
    rfl
  | m + 1, l, hl => by
    have lk : k ≤ l.length := by
      have : k * (m + 1 + 1) = k * m + k + k := by rw [Nat.mul_add, Nat.mul_add, Nat.mul_one]
      omega
    obtain ⟨x, h1, h2, h3⟩ := chk_last h z hz m (l.drop k) (by
      have : k * (m + 1 + 1) = k * (m + 1) + k := by rw [Nat.mul_add k (m + 1), Nat.mul_one]
      rw [List.length_drop]
      omega)
    refine ⟨x, ?_, h2, fun y hy => List.mem_of_mem_drop (h3 y hy)⟩
    have e : (l ++ List.replicate z 0) ≠ [] := fun q => by
      have := (List.append_eq_nil_iff.mp q).1
      rw [this] at lk
      simp at lk
      omega
    rw [chk_cons h e, List.drop_append_of_le_length lk]
    cases hc : chk k (l.drop k ++ List.replicate z 0) with
    | nil => rw [hc] at h1; cases h1
    | cons u v => rw [hc] at h1; rw [List.getLast?_cons_cons]; exact h1
theorem bitL_le (n : Nat) : ∀ x ∈ bitL n, x ≤ 1 := by
  intro x hx
  simp only [bitL, List.mem_cons, List.not_mem_nil, or_false] at hx
  omega
theorem bitsL_le (xs : List Int) : ∀ x ∈ bitsL xs, x ≤ 1 := by
  intro x hx
  obtain ⟨y, _, h⟩ := List.mem_flatMap.mp hx
  exact bitL_le _ x h
theorem digs_lt {c : CodeD} (ok : c.Ok) (xs : List Int) : ∀ n ∈ digsL c xs, n < 2 ^ c.sb := by
  intro n hn
  obtain ⟨x, hx, rfl⟩ := List.mem_map.mp hn
  have g := chk_mem ok.b1 _ _ (Nat.le_refl _) x hx
  refine Nat.lt_of_lt_of_le (num_lt x fun y hy => ?_) (Nat.pow_le_pow_right (by decide) g.1)
  rcases List.mem_append.mp (g.2 y hy) with h | h
  · exact bitsL_le xs y h
  · rw [List.eq_of_mem_replicate h]; exact Nat.zero_le _
theorem digs_len {c : CodeD} (ok : c.Ok) (xs : List Int) : (digsL c xs).length ≤ 8 * xs.length := by
  unfold digsL chk
  have h1 := ok.b1
  have zs := zf_spec ok.b1 ok.b6 (bitsL xs).length
  have zlt : (c.sb - (bitsL xs).length % c.sb) % c.sb < c.sb := Nat.mod_lt _ h1
  rw [List.length_map, List.length_map, List.length_range, List.length_append, List.length_replicate, ← bits_len]
  generalize (bitsL xs).length = n at *
  by_cases e : n = 0
  · subst e
    have : zf c 0 = 0 := by rw [zs]; simp
    rw [this, Nat.div_eq_of_lt (by omega)]
    exact Nat.le_refl _
  · obtain ⟨a, rfl⟩ : ∃ a, n = a + 1 := ⟨n - 1, by omega⟩
    obtain ⟨b, hb⟩ : ∃ b, c.sb = b + 1 := ⟨c.sb - 1, by omega⟩
    rw [hb] at zlt zs ⊢
    rw [zs]
    refine Nat.le_of_lt_succ (Nat.div_lt_of_lt_mul ?_)
    have e : (b + 1) * (a + 1 + 1) = a * b + a + b + 1 + (b + 1) := by
      rw [Nat.mul_add, Nat.mul_one, Nat.mul_add, Nat.mul_one, Nat.add_mul, Nat.one_mul, Nat.mul_comm b a]
      omega
    rw [Nat.succ_eq_add_one, e]
    omega
theorem digs_last {c : CodeD} (ok : c.Ok) (xs : List Int) (h : digsL c xs ≠ []) : ∃ n, (digsL c xs).getLast? = some n ∧ ∀ v, v < 2 ^ zf c (bitsL xs).length → n + v < 2 ^ c.sb := by
  have h1 := ok.b1
  have zs := zf_spec ok.b1 ok.b6 (bitsL xs).length
  have zlt : (c.sb - (bitsL xs).length % c.sb) % c.sb < c.sb := Nat.mod_lt _ h1
  have n0 : bitsL xs ≠ [] := fun z => h (by
    unfold digsL
    rw [z, zf_spec ok.b1 ok.b6, List.length_nil, Nat.zero_mod, Nat.sub_zero, Nat.mod_self]
    show (chk c.sb []).map numL = []
    rw [chk_nil h1]
    rfl)
  have p0 : 1 ≤ (bitsL xs).length := Nat.pos_of_ne_zero fun z => n0 (List.eq_nil_of_length_eq_zero z)
  have hbl := bitsL_le xs
  unfold digsL
  generalize hz : zf c (bitsL xs).length = z at *
  obtain ⟨m, hm⟩ : ∃ m, (bitsL xs).length + z = c.sb * (m + 1) := by
    have hd : ((bitsL xs).length + z) % c.sb = 0 := by
      rw [zs, ← Nat.add_mod_mod, Nat.mod_mod, Nat.add_mod_mod]
      have := Nat.mod_lt (bitsL xs).length h1
      have e := Nat.div_add_mod (bitsL xs).length c.sb
      rw [show (bitsL xs).length + (c.sb - (bitsL xs).length % c.sb) = c.sb * ((bitsL xs).length / c.sb + 1) by rw [Nat.mul_add, Nat.mul_one]; omega, Nat.mul_mod_right]
    refine ⟨((bitsL xs).length + z) / c.sb - 1, ?_⟩
    have e := Nat.div_add_mod ((bitsL xs).length + z) c.sb
    have : 1 ≤ ((bitsL xs).length + z) / c.sb := Nat.pos_of_ne_zero fun q => by rw [q, hd] at e; omega
    rw [Nat.sub_add_cancel this]
    omega
  obtain ⟨x, e1, e2, e3⟩ := chk_last h1 z (by omega) m (bitsL xs) hm
  refine ⟨numL (x ++ List.replicate z 0), by rw [List.getLast?_map, e1]; rfl, fun v hv => ?_⟩
  rw [num_zeros]
  have := num_lt x fun y hy => hbl y (e3 y hy)
  have e4 : 2 ^ c.sb = 2 ^ x.length * 2 ^ z := by rw [← Nat.pow_add, e2]
  rw [e4]
  have : (numL x + 1) * 2 ^ z ≤ 2 ^ x.length * 2 ^ z := Nat.mul_le_mul_right _ this
  rw [Nat.add_mul, Nat.one_mul] at this
  omega
theorem pow6 : ∀ z : Nat, z < 6 → atI [V.int 1, V.int 2, V.int 4, V.int 8, V.int 16, V.int 32] (z : Int) = some (V.int ((2 ^ z : Nat) : Int)) := by
  intro z hz
  have e : z = 0 ∨ z = 1 ∨ z = 2 ∨ z = 3 ∨ z = 4 ∨ z = 5 := by omega
  rcases e with rfl | rfl | rfl | rfl | rfl | rfl <;> rfl
theorem last_nv {l : List Nat} {n : Nat} (h : l.getLast? = some n) : atI (l.map nv) (-1) = some (nv n) := by
  obtain ⟨ys, e⟩ := List.getLast?_eq_some_iff.mp h
  rw [e, List.map_append]
  exact atI_last (ys.map nv) (nv n)
theorem ixN_last {n : Nat} (h : 1 ≤ n) : ixN n (-1) = some (n - 1) := by
  unfold ixN
  rw [if_neg (by decide), if_pos (by omega)]
  congr 1
  omega
theorem zf_int {c : CodeD} (h1 : 1 ≤ c.sb) (xs : List Int) : (0 - (8 : Int) * ((xs.map V.int).length : Nat)).fmod (c.sb : Int) = ((zf c (bitsL xs).length : Nat) : Int) := by
  unfold zf
  rw [List.length_map, bits_len, Int.toNat_of_nonneg (Int.fmod_nonneg_of_pos _ (by omega))]
  rfl
theorem ixN_nat {n i : Nat} (h : i < n) : ixN n ((0 : Int) + (i : Int)) = some i := by
  unfold ixN
  rw [if_pos (by omega)]
  first
    | (rw [if_pos (by omega)]; congr 1; omega)
    | (congr 1; omega)
def sgN (c : CodeD) (n : Nat) : Nat := c.sg.cps.toList.getD n 0
theorem sgN_at {c : CodeD} (ok : c.Ok) {n : Nat} (h : n < 2 ^ c.sb) : c.sg.cps.toList[n]? = some (sgN c n) ∧ Sg (sgN c n) := by
  have hl : n < c.sg.cps.toList.length := by
    rw [Array.length_toList]
    have : c.sg.length = 2 ^ c.sb := ok.ln
    exact Nat.lt_of_lt_of_eq h this.symm
  have e : c.sg.cps.toList[n]? = some (sgN c n) := by
    unfold sgN
    rw [List.getD_eq_getElem?_getD, List.getElem?_eq_getElem hl]
    rfl
  exact ⟨e, ok.sgs _ (List.mem_of_getElem? e)⟩
theorem Sg.ch {c : Nat} (h : Sg c) : Ch c := by
  unfold Sg at h
  exact .inr (by omega)
theorem oc_ch {c d : Nat} (h : oc c = [d]) : Ch d := by
  unfold oc at h
  split at h
  · cases h; exact .inr (by omega)
  · split at h
    · cases h; exact .inr (by omega)
    · cases h
def kvs4 (due o a : Nat) : List (Key × V) := [(.inr (Str.ofString "full"), .int due), (.inr (Str.ofString "none"), .int 0), (.inr (Str.ofString "optional"), .int o), (.inr (Str.ofString "any"), .int a)]
theorem kvs4_at {z : Str} (po : padsOk z) {due o a : Nat} (h1 : due ≤ 12) (h2 : o ≤ 12) (h3 : a ≤ 12) : ∃ m : Nat, valV (mergeK [] (kvs4 due o a)) (.inr z) = some (.int m) ∧ m ≤ 12 := by
  rcases po with rfl | rfl | rfl | rfl
  · exact ⟨due, rfl, h1⟩
  · exact ⟨0, rfl, Nat.zero_le _⟩
  · exact ⟨o, rfl, h2⟩
  · exact ⟨a, rfl, h3⟩
theorem pd_ch {c : CodeD} (ok : c.Ok) (h : c.pd ≠ tx []) : ∃ pc, c.pd = tx [pc] ∧ Ch pc := by
  have e : c.pd = tx c.pd.cps.toList := by
    unfold tx
    rw [Array.toArray_toList]
  have l1 : c.pd.cps.toList.length ≤ 1 := by rw [Array.length_toList]; exact ok.pl
  have g := ok.pds
  unfold Sgs at g
  generalize c.pd.cps.toList = l at e l1 g
  match l, l1 with
  | [], _ => exact absurd e h
  | [pc], _ => exact ⟨pc, e, (g pc (List.mem_cons_self ..)).ch⟩
theorem flat_one (v : V) : ∀ m : Nat, (List.replicate m [v]).flatten = List.replicate m v
  | 0 => rfl
  | m + 1 => by rw [List.replicate_succ, List.flatten_cons, flat_one v m]; rfl
def rowV (l : List Nat) : List V := l.map fun ch => V.str (tx [ch])
def sp_l_spelt (T : Txt K mg) : Sp := fun vs H Q _ => ∃ (b p q d : Addr) (c : CodeD) (r : RD) (xs : List Int) (N : Nat), vs = [.ref b, .ref p, .ref q, .ref d] ∧ BagAt H b (N + 600) ∧ TupC H p c ∧ c.New ∧ RTup H q r ∧ r.Ok ∧ p ≠ b ∧ q ≠ b ∧ d ≠ b ∧ H d = some (.lst (xs.map V.int)) ∧ xs.length ≤ 60 ∧ Byts xs ∧
  ∀ X l H', SameB b H H' → BagAt H' b N → X ≠ b → H' X = some (.lst (rowV l)) → Chs l → l.length ≤ 8 * xs.length + 12 → Q (.ref X) H'
theorem len_l_spelt (T : Txt K mg) (vs : List V) (H : Hp) (Q : VK) (E : XK) (h : sp_l_spelt T vs H Q E) : vs.length = 4 := by
  obtain ⟨_, _, _, _, _, _, _, _, rfl, _⟩ := h
  rfl
def t_l_spelt (T : Txt K mg) : TS := (tSeq (tPar 4 5 (tCons (tCall (sp_l_digits T) [] E0 (tCons (tVar 1) (tCons (tVar 3) tNil))) (tCons (tCall (sp_l_size T) [] E0 (tCons (tVar 1) tNil)) tNil)))
    (tSeq (tIfS (tAnd (tB (tOp (rIx K) (tVar 2) (tC (.int 3)))) (tTest (tOp (rNeU K) (tVar 4) (tLst tNil)))) (tSeq (tAsg (tOp rModI (tOp rSubI (tC (.int 0)) (tOp (rMulU K) (tC (.int 8)) (tCB (rLenU K) (tCons (tVar 3) tNil)))) (tVar 5)) (gName 6))
    (tAsg (tOp (rAddU K) (tOp (rIx K) (tVar 4) (tUn rNegI (tC (.int 1)))) (tCall (sp_l_take T) [] E0 (tCons (tVar 0) (tCons (tOp (rIx K) (tLst (tCons (tC (.int 1)) (tCons (tC (.int 2)) (tCons (tC (.int 4)) (tCons (tC (.int 8)) (tCons (tC (.int 16)) (tCons (tC (.int 32)) tNil))))))) (tVar 6)) tNil)))) (gSub (tVar 4) (tUn rNegI (tC (.int 1))) rSetL))) tNext)
    (tSeq (tAsg (tLc (iSeqU K (tVar 4)) (gName 12) tYes (tOp (rIx K) (tOp (rIx K) (tVar 1) (tC (.int 0))) (tVar 12)) [12]) (gName 7))
    (tSeq (tIfS (tB (tOp (rIx K) (tVar 2) (tC (.int 4)))) (tSeq (tAsg (tLc (iSeqU K (tVar 7)) (gName 13) tYes (tCall (sp_l_other T) [] E0 (tCons (tVar 13) tNil)) [13]) (gName 8))
    (tFor (iRng1 (tCons (tCB (rLenU K) (tCons (tVar 7) tNil)) tNil)) (gName 9) (tIfS (tAnd (tTest (tOp (rNeU K) (tOp (rIx K) (tVar 8) (tVar 9)) (tC (.str (Str.ofString ""))))) (tAnd (tTest (tOp (rNinU K) (tOp (rIx K) (tVar 8) (tVar 9)) (tOp (rIx K) (tVar 1) (tC (.int 0))))) (tAnd (tTest (tOp (rNeU K) (tOp (rIx K) (tVar 8) (tVar 9)) (tOp (rIx K) (tVar 1) (tC (.int 1))))) (tTest (tOp (rEqU K) (tCall (sp_l_take T) [] E0 (tCons (tVar 0) (tCons (tC (.int 2)) tNil))) (tC (.int 0))))))) (tAsg (tOp (rIx K) (tVar 8) (tVar 9)) (gSub (tVar 7) (tVar 9) rSetL)) tNext))) tNext)
    (tSeq (tAsg (tIf (tTest (tOp (rNeU K) (tOp (rIx K) (tVar 1) (tC (.int 1))) (tC (.str (Str.ofString ""))))) (tOp rModI (tOp rSubI (tC (.int 0)) (tCB (rLenU K) (tCons (tVar 7) tNil))) (tCall (sp_l_group T) [] E0 (tCons (tVar 1) tNil))) (tC (.int 0))) (gName 10))
    (tSeq (tAsg (tDGet (tDisp [((tC (.str (Str.ofString "full"))), (tVar 10)), ((tC (.str (Str.ofString "none"))), (tC (.int 0))), ((tC (.str (Str.ofString "optional"))), (tCall (sp_l_of T) [] E0 (tCons (tVar 0) (tCons (tLst (tCons (tC (.int 0)) (tCons (tVar 10) tNil))) tNil)))), ((tC (.str (Str.ofString "any"))), (tCall (sp_l_take T) [] E0 (tCons (tVar 0) (tCons (tC (.int 12)) tNil))))]) (tOp (rIx K) (tVar 2) (tC (.int 0)))) (gName 11))
    (tRet (tOp (rAddU K) (tVar 7) (tOp (rMulU K) (tLst (tCons (tOp (rIx K) (tVar 1) (tC (.int 1))) tNil)) (tIf (tTest (tOp (rNeU K) (tOp (rIx K) (tVar 1) (tC (.int 1))) (tC (.str (Str.ofString ""))))) (tVar 11) (tC (.int 0))))))))))))

theorem pure_l_spelt (T : Txt K mg) (vs : List V) (H : Hp) (Q : VK) (E : XK) (h : sp_l_spelt T vs H Q E) : t_l_spelt T { nx := fun _ H' => Q .non H', rt := Q } (start ["_law_bag_here", "_law_code_here", "_law_ruled_here", "_law_data_here", "_law_digits_here", "_law_size_here", "_law_spare", "_law_row", "_law_both", "_law_at", "_law_due", "_law_many", "_law_digit_here", "_law_one"] vs) H := by
  obtain ⟨b, p, q, d, c, r, xs, N, rfl, hB, hp, nw, hq, ro, pb, qb, db, hd, hl, hx, k⟩ := h
  have ok := nw.1
  have hp' := hp
  have hq' := hq
  unfold TupC at hp
  unfold RTup at hq
  have hn : ∀ n ∈ digsL c xs, n < 2 ^ c.sb := digs_lt ok xs
  have hnl := digs_len ok xs
  have hla := digs_last ok xs
  unfold t_l_spelt
  walk_at "rd"
  refine ⟨p, d, c, xs, rfl, hp', ok, hd, by omega, hx, fun r0 H1 s1 nr0 hr0 => ?_⟩
  walk_at "rd"
  refine ⟨p, c.sg, c.pd, c.wd, c.sb, rfl, s1 _ _ hp, ok.ln, ok.b1, ok.b6, fun H2 s2 => ?_⟩
  refine ⟨_, _, rfl, ?_⟩
  have s12 := s1.trans s2
  have hr2 := s2 _ _ hr0
  have hp2 := s12 _ _ hp
  have hq2 := s12 _ _ hq
  have hd2 := s12 _ _ hd
  have hB2 := hB.same s12
  have rb : r0 ≠ b := hB.ne nr0
  have rp : r0 ≠ p := fun z => by rw [z, hp] at nr0; cases nr0
  have rq : r0 ≠ q := fun z => by rw [z, hq] at nr0; cases nr0
  walk_at "rx"
  refine r_seqC (fun σ G => ∃ v6, ∃ ds : List Nat, σ = [some (.ref b), some (.ref p), some (.ref q), some (.ref d), some (.ref r0), some (.int c.sb), v6, none, none, none, none, none, none, none] ∧ SameB b H G ∧ BagAt G b (N + 500) ∧ G r0 = some (.lst (ds.map nv)) ∧ (∀ n ∈ ds, n < 2 ^ c.sb) ∧ ds.length ≤ 8 * xs.length) ?_ fun N' tail => ?_
  rotate_left
  · have same : N' [some (.ref b), some (.ref p), some (.ref q), some (.ref d), some (.ref r0), some (.int c.sb), none, none, none, none, none, none, none, none] H2 := tail _ _ ⟨none, digsL c xs, rfl, toB s12, hB2.mono (by omega), hr2, hn, hnl⟩
    walk_at "rd"
    refine r_iteB (fun h1 => ?_) (fun h1 => ?_)
    · walk_at "rd"
      refine And.intro (Nat.zero_le _) fun e0 ne0 => ?_
      generalize hgx : upd _ e0 _ = H3
      have s3 := same_of hgx ne0
      have v3 : H3 e0 = some (.lst (([] : List Nat).map nv)) := at_of hgx
      clear hgx
      have hr3 := s3 _ _ hr2
      refine r_neN (ql hr3) (ql v3) ?_
      walk_at "rd"
      refine r_iteND (fun h2 => ?_) (fun h2 => ?_)
      · obtain ⟨n, en, hv⟩ := hla h2
        have l1 : 1 ≤ (digsL c xs).length := Nat.pos_of_ne_zero fun z => h2 (List.eq_nil_of_length_eq_zero z)
        have hd3 := s3 _ _ hd2
        have zs := zf_spec ok.b1 ok.b6 (bitsL xs).length
        have zlt : (c.sb - (bitsL xs).length % c.sb) % c.sb < c.sb := Nat.mod_lt _ ok.b1
        have sb6 := ok.b6
        have sb1 := ok.b1
        have gl : atI ((digsL c xs).map nv) (-1) = some (nv n) := last_nv en
        walk_at "rd"
        rw [zf_int ok.b1]
        walk_at "rd"
        refine r_negI ?_
        walk_at "rd"
        refine And.intro (by show 6 ≤ sizeLine; decide) fun e1 ne1 => ?_
        generalize hgx : upd _ e1 _ = H4
        have s4 := same_of hgx ne1
        have v4 := at_of hgx
        clear hgx
        have p6 := pow6 (zf c (bitsL xs).length) (by omega)
        have p26 : 2 ^ zf c (bitsL xs).length ≤ 2 ^ 6 := Nat.pow_le_pow_right (by decide) (by omega)
        have p20 : 0 < 2 ^ zf c (bitsL xs).length := Nat.pow_pos (by decide)
        have s24 := s3.trans s4
        walk_at "rd"
        refine ⟨b, ((2 ^ zf c (bitsL xs).length : Nat) : Int), N + 599, rfl, hB2.same s24, by omega, by omega, fun v H5 v0 v1 hb5 sb5 => ?_⟩
        obtain ⟨w, rfl⟩ : ∃ w : Nat, v = w := ⟨v.toNat, by omega⟩
        have hr5 := sb5 _ _ rb (s24 _ _ hr2)
        walk_at "rd"
        refine r_negI ?_
        refine r_setL hr5 (ixN_last (by rw [List.length_map]; exact l1)) ?_
        generalize hgx : upd H5 r0 _ = H6
        have b6 : SameB r0 H5 H6 := sameB_of hgx
        have v6 := at_of hgx
        clear hgx
        refine tail _ _ ⟨some (.int (zf c (bitsL xs).length : Nat)), (digsL c xs).set ((digsL c xs).length - 1) (n + w), rfl, fun x o nx h => ?_, ?_, ?_, fun m hm => ?_, by rw [List.length_set]; exact hnl⟩
        · exact b6 _ _ (fun z => by rw [z, nr0] at h; cases h) (sb5 _ _ nx (s24 _ _ (s12 _ _ h)))
        · obtain ⟨dB, mB, cB, BB, eB⟩ := hb5.mono (show N + 500 ≤ N + 599 by omega)
          exact ⟨dB, mB, cB, BB, b6 _ _ rb.symm eB⟩
        · rw [v6, List.map_set, List.length_map]
          rfl
        · rcases List.mem_or_eq_of_mem_set hm with hm | rfl
          · exact hn m hm
          · exact hv w (by omega)
      · walk_at "rd"
        exact tail _ _ ⟨none, digsL c xs, rfl, toB (s12.trans s3), (hB2.same s3).mono (by omega), hr3, hn, hnl⟩
    · walk_at "rd"
      exact same
  rintro σ G ⟨v6, ds, rfl, sG, hbG, hrG, hds, hdl⟩
  have hpG := sG _ _ pb hp
  have hqG := sG _ _ qb hq
  have zs : c.sg.length ≤ sizeLine := smallS (by have h2 : 2 ^ c.sb ≤ 2 ^ 6 := Nat.pow_le_pow_right (by decide) ok.b6; have := ok.ln; omega)
  walk_at "rd"
  refine r_iseqL ?_
  walk_at "rd"
  refine ⟨r0, rfl, ⟨_, ql hrG⟩, fun D nD => ?_⟩
  refine c_it (walk_list (K := K) (a := r0) (xs := ds.map nv)) (fun i G1 => G1 D = some (.lst (rowV ((ds.take i).map (sgN c)))) ∧ Same G G1) ⟨upd_same, same_new nD⟩ (fun i G1 _ h => ql (h.2 _ _ hrG)) ?_ ?_
  · rintro i x G1 G2 hi ⟨hD, s1'⟩ ⟨rfl, hx'⟩
    rw [List.getElem?_map] at hx'
    obtain ⟨n, hn', rfl⟩ := Option.map_eq_some_iff.mp hx'
    have hi2 : i < ds.length := (List.getElem?_eq_some_iff.mp hn').1
    have hp1 := s1' _ _ hpG
    have hat := sgN_at ok (hds n (List.mem_of_getElem? hn'))
    walk_at "rd"
    refine ⟨rfl, ?_⟩
    walk_at "rd"
    refine r_ixS zs (atI_nat hat.1) ?_
    refine ⟨_, hD, ?_, ?_, same_mut s1' nD⟩
    · unfold rowV
      rw [List.length_map, List.length_map, List.length_take]
      exact Nat.lt_of_le_of_lt (show _ ≤ 1000 by omega) (by rw [sizeLine_eq]; decide)
    · rw [upd_same, List.take_add_one, hn']
      unfold rowV
      rw [List.map_append, List.map_append]
      rfl
  rintro G1 ⟨hD, s1'⟩
  rw [List.length_map, List.take_length] at hD
  have Db : D ≠ b := hbG.ne nD
  have hb1 := hbG.same s1'
  have sG1 : SameB b H G1 := sG.trans (toB s1')
  have ch0 : Chs (ds.map (sgN c)) := fun x hx => by
    obtain ⟨n, hn', rfl⟩ := List.mem_map.mp hx
    exact (sgN_at ok (hds n hn')).2.ch
  have l0 : (ds.map (sgN c)).length = ds.length := List.length_map _
  have HDn : H D = none := (show ∀ o, H D ≠ some o from fun o h => by
    have := sG _ _ Db h
    rw [nD] at this
    cases this) |> fun h => by
    cases e : H D with
    | none => rfl
    | some o => exact absurd e (h o)
  generalize ds.map (sgN c) = row0 at hD ch0 l0
  walk_at "rx"
  refine r_seqC (fun σ G => ∃ v8 v9 v13, ∃ l : List Nat, σ = [some (.ref b), some (.ref p), some (.ref q), some (.ref d), some (.ref r0), some (.int c.sb), v6, some (.ref D), v8, v9, none, none, none, v13] ∧ SameB b H G ∧ BagAt G b (N + 10) ∧ G D = some (.lst (rowV l)) ∧ Chs l ∧ l.length = ds.length) ?_ fun N' tail => ?_
  rotate_left
  · walk_at "rd"
    refine r_iteB (fun h1 => ?_) (fun h1 => ?_)
    · walk_at "rd"
      refine r_iseqL ?_
      walk_at "rd"
      refine ⟨D, rfl, ⟨_, ql hD⟩, fun E0 nE => ?_⟩
      refine c_it (walk_list (K := K) (a := D) (xs := rowV row0)) (fun i G2 => G2 E0 = some (.lst ((row0.take i).map fun ch => V.str (tx (oc ch)))) ∧ Same G1 G2) ⟨upd_same, same_new nE⟩ (fun i G2 _ h => ql (h.2 _ _ hD)) ?_ ?_
      · rintro i x G2 G3 hi ⟨hE, s2'⟩ ⟨rfl, hx'⟩
        unfold rowV at hx'
        rw [List.getElem?_map] at hx'
        obtain ⟨ch, hc', rfl⟩ := Option.map_eq_some_iff.mp hx'
        have hi2 : i < row0.length := (List.getElem?_eq_some_iff.mp hc').1
        walk_at "rd"
        refine ⟨rfl, ?_⟩
        walk_at "rd"
        refine ⟨[ch], rfl, Nat.le_refl _, ?_⟩
        refine ⟨_, hE, ?_, ?_, same_mut s2' nE⟩
        · rw [List.length_map, List.length_take]
          exact Nat.lt_of_le_of_lt (show _ ≤ 1000 by omega) (by rw [sizeLine_eq]; decide)
        · rw [upd_same, List.take_add_one, hc', List.map_append]
          rfl
      rintro G2 ⟨hE, s2'⟩
      have eR : (rowV row0).length = row0.length := List.length_map _
      rw [eR, List.take_length] at hE
      have hD2 := s2' _ _ hD
      have ED : E0 ≠ D := fun z => by rw [z, hD] at nE; cases nE
      have Eb : E0 ≠ b := hb1.ne nE
      walk_at "rd"
      rw [eR]
      refine r_one ⟨by omega, by omega⟩ ?_
      refine f_it (walk_range (lo := 0) (n := row0.length)) (fun i σ G => ∃ v9, ∃ l : List Nat, σ = [some (.ref b), some (.ref p), some (.ref q), some (.ref d), some (.ref r0), some (.int c.sb), v6, some (.ref D), some (.ref E0), v9, none, none, none, none] ∧ SameB b H G ∧ BagAt G b (N + 10 + (480 - i)) ∧ G D = some (.lst (rowV l)) ∧ Chs l ∧ l.length = ds.length ∧ G E0 = some (.lst (row0.map fun ch => V.str (tx (oc ch)))))
        ⟨_, row0, rfl, sG1.trans (toB s2'), (hb1.same s2').mono (by omega), hD2, ch0, l0, hE⟩ (fun _ _ _ _ _ => trivial) ?_ ?_
      · rintro i x σ G3 G4 hi ⟨v9, l, rfl, sG3, hb3, hD3, chl, hll, hE3⟩ ⟨rfl, rfl⟩
        have hi2 : i < row0.length := hi
        obtain ⟨ch, hc'⟩ : ∃ ch, row0[i]? = some ch := ⟨_, List.getElem?_eq_getElem hi2⟩
        have gE : atI (row0.map fun ch => V.str (tx (oc ch))) ((0 : Int) + (i : Int)) = some (V.str (tx (oc ch))) := by
          rw [Int.zero_add]
          exact atI_nat (by rw [List.getElem?_map, hc']; rfl)
        have hp3 := sG3 _ _ pb hp
        have same : ∀ G5, SameB b G4 G5 → BagAt G5 b (N + 10 + (480 - (i + 1))) → G5 D = some (.lst (rowV l)) → ∃ v9, ∃ l : List Nat, [some (.ref b), some (.ref p), some (.ref q), some (.ref d), some (.ref r0), some (.int c.sb), v6, some (.ref D), some (.ref E0), some (.int ((0 : Int) + (i : Int))), none, none, none, none] = [some (.ref b), some (.ref p), some (.ref q), some (.ref d), some (.ref r0), some (.int c.sb), v6, some (.ref D), some (.ref E0), v9, none, none, none, none] ∧ SameB b H G5 ∧ BagAt G5 b (N + 10 + (480 - (i + 1))) ∧ G5 D = some (.lst (rowV l)) ∧ Chs l ∧ l.length = ds.length ∧ G5 E0 = some (.lst (row0.map fun ch => V.str (tx (oc ch)))) := fun G5 s5 hb5 h5 =>
          ⟨_, l, rfl, sG3.trans s5, hb5, h5, chl, hll, s5 _ _ Eb hE3⟩
        have keep := same G4 (toB (Same.refl _)) (hb3.mono (by omega)) hD3
        walk_at "rd"
        refine r_iteND (fun c1 => ?_) (fun c1 => ?_)
        · obtain ⟨y, hy⟩ : ∃ y, oc ch = [y] := by
            have l1 := oc_len ch
            match h : oc ch, l1 with
            | [], _ => exact absurd (by rw [h]; rfl) c1
            | [y], _ => exact ⟨y, rfl⟩
          have chy := oc_ch hy
          rw [hy] at gE
          walk_at "rd"
          refine r_nin1 ?_
          walk_at "rd"
          refine r_iteND (fun c2 => ?_) (fun c2 => ?_)
          · walk_at "rd"
            refine r_iteND (fun c3 => ?_) (fun c3 => ?_)
            · walk_at "rd"
              refine ⟨b, 2, N + 10 + (480 - (i + 1)), rfl, hb3.mono (by omega), by decide, by decide, fun v G5 v0 v1 hb5 sb5 => ?_⟩
              have hD5 := sb5 _ _ Db hD3
              have hE5 := sb5 _ _ Eb hE3
              walk_at "rd"
              refine r_iteD (fun c4 => ?_) (fun c4 => ?_)
              · walk_at "rd"
                refine r_setL hD5 (ixN_nat (by unfold rowV; rw [List.length_map]; omega)) ?_
                generalize hgx : upd G5 D _ = G6
                have b6 : SameB D G5 G6 := sameB_of hgx
                have v6 := at_of hgx
                clear hgx
                refine ⟨_, l.set i y, rfl, fun x o nx h => b6 _ _ (fun z => by rw [z, HDn] at h; cases h) (sb5 _ _ nx (sG3 _ _ nx h)), ?_, ?_, fun m hm => ?_, by rw [List.length_set]; exact hll, b6 _ _ ED hE5⟩
                · obtain ⟨dB, mB, cB, BB, eB⟩ := hb5
                  exact ⟨dB, mB, cB, BB, b6 _ _ Db.symm eB⟩
                · rw [v6]
                  unfold rowV
                  rw [List.map_set]
                · rcases List.mem_or_eq_of_mem_set hm with hm | rfl
                  · exact chl m hm
                  · exact chy
              · walk_at "rd"
                exact same G5 sb5 hb5 hD5
            · walk_at "rd"
              exact keep
          · walk_at "rd"
            exact keep
        · walk_at "rd"
          exact keep
      · rintro σ G3 ⟨v9, l, rfl, sG3, hb3, hD3, chl, hll, hE3⟩
        exact tail _ _ ⟨_, _, _, l, rfl, sG3, hb3.mono (by omega), hD3, chl, hll⟩
    · walk_at "rd"
      exact tail _ _ ⟨_, _, _, row0, rfl, sG1, hb1.mono (by omega), hD, ch0, l0⟩
  rintro σ G ⟨v8, v9, v13, l, rfl, sG2, hb2, hD2, chl, hll⟩
  have hpG := sG2 _ _ pb hp
  have hqG := sG2 _ _ qb hq
  have gp := grp_pos ok.b1 ok.b6
  have g8 : grp c.sb ≤ 8 := by
    have h1 := ok.b1
    have h6 := ok.b6
    have e : c.sb = 1 ∨ c.sb = 2 ∨ c.sb = 3 ∨ c.sb = 4 ∨ c.sb = 5 ∨ c.sb = 6 := by omega
    rcases e with e | e | e | e | e | e <;> rw [e] <;> decide
  have eRl : (rowV l).length = l.length := List.length_map _
  refine r_seqC (fun σ G' => ∃ due : Nat, σ = [some (.ref b), some (.ref p), some (.ref q), some (.ref d), some (.ref r0), some (.int c.sb), v6, some (.ref D), v8, v9, some (.int due), none, none, v13] ∧ Same G G' ∧ due ≤ 7) ?_ fun N' tail => ?_
  rotate_left
  · walk_at "rd"
    refine r_iteND (fun h1 => ?_) (fun h1 => ?_)
    · walk_at "rd"
      refine ⟨p, c.sg, c.pd, c.wd, c.sb, rfl, hpG, ok.ln, ok.b1, ok.b6, fun G3 s3 => ?_⟩
      walk_at "rd"
      rw [neg_grp ok.b1 ok.b6]
      exact tail _ _ ⟨_, rfl, s3, by have := Nat.mod_lt (grp c.sb - (rowV l).length % grp c.sb) gp; omega⟩
    · walk_at "rd"
      exact tail _ _ ⟨0, rfl, Same.refl _, Nat.zero_le _⟩
  rintro σ G' ⟨due, rfl, sG', hdue⟩
  have hq' := sG' _ _ hqG
  walk_at "rd"
  intro W nW
  generalize hgx : upd G' W _ = H3
  have s3 := same_of hgx nW
  have v3 := at_of hgx
  clear hgx
  have hb3 := (hb2.same sG').same s3
  have Wb : W ≠ b := (hb2.same sG').ne nW
  simp only [tPairs]
  walk_at "rd"
  refine And.intro (by show 2 ≤ sizeLine; decide) fun lx nlx => ?_
  generalize hgx : upd H3 lx _ = H4
  have s4 := same_of hgx nlx
  have v4 := at_of hgx
  clear hgx
  have hb4 := hb3.same s4
  have v34 := s4 _ _ v3
  walk_at "rd"
  refine ⟨b, lx, _, N + 9, rfl, ql v4, hb3.ne nlx, hb4, by show 0 < 2; decide, by show 2 < 1000000; decide, fun io xo H5 ho hb5 sb5 => ?_⟩
  obtain ⟨o, rfl, ho7⟩ : ∃ o : Nat, xo = .int o ∧ o ≤ 7 := by
    match io, ho with
    | 0, ho => exact ⟨0, (Option.some.inj ho).symm, Nat.zero_le _⟩
    | 1, ho => exact ⟨due, (Option.some.inj ho).symm, hdue⟩
    | io + 2, ho => cases ho
  have v5 := sb5 _ _ Wb v34
  walk_at "rd"
  refine ⟨b, 12, N + 8, rfl, hb5, by decide, by decide, fun va H6 va0 va1 hb6 sb6 => ?_⟩
  obtain ⟨a, rfl⟩ : ∃ a : Nat, va = a := ⟨va.toNat, by omega⟩
  have v6' := sb6 _ _ Wb v5
  refine ⟨v6', kvs4 due o a, rfl, by show 4 ≤ 15; decide, ?_⟩
  generalize hgx : upd H6 W _ = H7
  have b7 : SameB W H6 H7 := sameB_of hgx
  have v7 := at_of hgx
  clear hgx
  have S7 : ∀ x o, x ≠ b → G' x = some o → H7 x = some o := fun x o nx h => b7 _ _ (fun z => by rw [z, nW] at h; cases h) (sb6 _ _ nx (sb5 _ _ nx (s4 _ _ (s3 _ _ h))))
  have hq7 := S7 _ _ qb hq'
  have hp7 := S7 _ _ pb (sG' _ _ hpG)
  have hD7 := S7 _ _ Db (sG' _ _ hD2)
  have hb7 : BagAt H7 b (N + 8) := by
    obtain ⟨dB, mB, cB, BB, eB⟩ := hb6
    exact ⟨dB, mB, cB, BB, b7 _ _ Wb.symm eB⟩
  have SH7 : SameB b H H7 := fun x o nx h => S7 _ _ nx (sG' _ _ (sG2 _ _ nx h))
  walk_at "rd"
  obtain ⟨m, hm, hm12⟩ := kvs4_at (due := due) (o := o) (a := a) ro.pd (by omega) (by omega) (by omega)
  refine ⟨W, .int (m : Nat), rfl, ?_, ?_⟩
  · have := DGet.k (k := .inr r.pads) v7
    rw [hm] at this
    exact this
  walk_at "rd"
  refine And.intro (by show 1 ≤ sizeLine; decide) fun lp nlp => ?_
  generalize hgx : upd H7 lp _ = H8
  have s8 := same_of hgx nlp
  have v8 := at_of hgx
  clear hgx
  have hp8 := s8 _ _ hp7
  have hD8 := s8 _ _ hD7
  have fin : ∀ m2 : Nat, m2 ≤ 12 → (m2 ≠ 0 → c.pd ≠ tx []) → rMulU K (.ref lp) (.int (m2 : Nat)) H8 fun x H' => rAddU K (.ref D) x H' Q := fun m2 l2 ne => by
    refine r_mulUL v8 ⟨by omega, by omega⟩ (smallS (by simp only [List.length_cons, List.length_nil]; omega)) fun l1 nl1 => ?_
    generalize hg5 : upd _ l1 _ = H9
    have s9 := same_of hg5 nl1
    have v9 := at_of hg5
    clear hg5
    refine r_addUL (s9 _ _ hD8) v9 (by rw [flat_one, List.length_replicate, eRl]; exact smallS (by omega)) fun l3 nl3 => ?_
    generalize hg6 : upd _ l3 _ = HA
    have sA := same_of hg6 nl3
    have vA := at_of hg6
    clear hg6
    have s8A := s8.trans (s9.trans sA)
    have hbA := hb7.same s8A
    have nb3 : l3 ≠ b := ((hb7.same s8).same s9).ne nl3
    by_cases h0 : m2 = 0
    · subst h0
      refine k l3 l HA (SH7.trans (toB s8A)) (hbA.mono (by omega)) nb3 ?_ chl (by omega)
      rw [vA]
      show some (HO.lst (rowV l ++ [])) = _
      rw [List.append_nil]
    · obtain ⟨pc, epc, hpc⟩ := pd_ch ok (ne h0)
      refine k l3 (l ++ List.replicate m2 pc) HA (SH7.trans (toB s8A)) (hbA.mono (by omega)) nb3 ?_ (fun x hx => ?_) (by rw [List.length_append, List.length_replicate]; omega)
      · rw [vA, epc]
        show some (HO.lst (rowV l ++ (List.replicate m2 [V.str (tx [pc])]).flatten)) = _
        rw [flat_one]
        unfold rowV
        rw [List.map_append, List.map_replicate]
      · rcases List.mem_append.mp hx with hx | hx
        · exact chl x hx
        · rw [List.eq_of_mem_replicate hx]; exact hpc
  walk_at "rd"
  refine r_iteND (fun h1 => ?_) (fun h1 => ?_)
  · walk_at "rd"
    exact fin m hm12 fun _ => h1
  · walk_at "rd"
    exact fin 0 (Nat.zero_le _) fun z => absurd rfl z
theorem ok_l_spelt (T : Txt K mg) : FnOk P w K mg base CX0 3 T.l_spelt_a T.l_spelt_d ["_law_bag_here", "_law_code_here", "_law_ruled_here", "_law_data_here"] (sp_l_spelt T) := by
  refine T.l_spelt_f.ok sc_l_spelt (fun vs H Q E h => len_l_spelt T vs H Q E h) (fun cdv A outer s H vs Q E hr h => ⟨t_l_spelt T, PSs.nox ?_, pure_l_spelt T vs H Q E h⟩)
  have hu := hu64 hr
  exact (pss_cons (ps_par (i := 4) (j := 5) (by rfl) sc_l_spelt.nd rfl rfl (by decide) rfl rfl (pa_cons (pe_call (ok_l_digits T) (hr.mono (by decide)) (by rfl) T.l_digits_g T.l_digits_f.kp T.l_digits_b .nil pass0 (pa_cons (pv 1) (pa_cons (pv 3) pa_nil))) (pa_cons (pe_call (ok_l_size T) (hr.mono (by decide)) (by rfl) T.l_size_g T.l_size_f.kp T.l_size_b .nil pass0 (pa_cons (pv 1) pa_nil)) pa_nil)) (by rfl))
      (pss_cons (ps_if (PW.pt (pw_and (pt_val (pe_ix ix_seq (pv 2) pe_int (fun _ _ => rfl))) (pw_and1 (pt_cmpR (op_neU hu) (pv 4) (pe_lst pa_nil) (nomark _))))) (pss_cons (ps_set (i := 6) sc_l_spelt.nd rfl (.inl rfl) (pe_op op_modN (pe_op op_sub pe_int (pe_op op_mulU pe_int (pe_callB c_lenU (by rfl) T.n_len (by decide +kernel) (pa_cons (pv 3) pa_nil)))) (pv 5)))
      (pss_one (ps_asg (pe_op op_addU (pe_ix ix_seq (pv 4) (pe_un un_neg pe_int) (fun _ _ => rfl)) (pe_call (ok_l_take T) (hr.mono (by decide)) (by rfl) T.l_take_g T.l_take_f.kp T.l_take_b .nil pass0 (pa_cons (pv 0) (pa_cons (pe_ix ix_seq (pe_lst (pa_cons pe_int (pa_cons pe_int (pa_cons pe_int (pa_cons pe_int (pa_cons pe_int (pa_cons pe_int pa_nil))))))) (pv 6) (fun _ _ => rfl)) pa_nil)))) (pg_sub (pv 4) (pe_un un_neg pe_int) set_list)))) pss_nil)
      (pss_cons (ps_setLc (i := 7) (own := [("_law_digit_here", 12)]) (g := (gName 12)) (tt := tYes) rfl sc_l_spelt.nd rfl rfl (sw_true rfl rfl rfl (by decide +kernel)) (pi_seqU (pv 4)) (blkOk_by (own := [("_law_digit_here", 12)]) (N := ["_law_bag_here", "_law_code_here", "_law_ruled_here", "_law_data_here", "_law_digits_here", "_law_size_here", "_law_spare", "_law_row", "_law_both", "_law_at", "_law_due", "_law_many", "_law_digit_here", "_law_one"]) (sc := defScope s_l_spelt) (by decide +kernel)) (fun _ _ _ _ _ => (pg_name (i := 12) sc_l_spelt.nd rfl (.inl rfl))) (fun _ _ _ _ _ => pts_nil) (fun _ _ _ _ _ => (pe_ix ix_seq (pe_ix ix_seq (pv 1) pe_int (fun _ _ => rfl)) (pv 12) (fun _ _ => rfl))))
      (pss_cons (ps_if (pt_val (pe_ix ix_seq (pv 2) pe_int (fun _ _ => rfl))) (pss_cons (ps_setLc (i := 8) (own := [("_law_one", 13)]) (g := (gName 13)) (tt := tYes) rfl sc_l_spelt.nd rfl rfl (sw_true rfl rfl rfl (by decide +kernel)) (pi_seqU (pv 7)) (blkOk_by (own := [("_law_one", 13)]) (N := ["_law_bag_here", "_law_code_here", "_law_ruled_here", "_law_data_here", "_law_digits_here", "_law_size_here", "_law_spare", "_law_row", "_law_both", "_law_at", "_law_due", "_law_many", "_law_digit_here", "_law_one"]) (sc := defScope s_l_spelt) (by decide +kernel)) (fun _ _ _ _ _ => (pg_name (i := 13) sc_l_spelt.nd rfl (.inl rfl))) (fun _ _ _ _ _ => pts_nil) (fun _ _ _ _ _ => (pe_call (ok_l_other T) (hr.mono (by decide)) (by rfl) T.l_other_g T.l_other_f.kp T.l_other_b .nil pass0 (pa_cons (pv 13) pa_nil))))
      (pss_one (ps_for PassesOwn.never rfl (pi_range1 (by rfl) T.n_range (pa_cons (pe_callB c_lenU (by rfl) T.n_len (by decide +kernel) (pa_cons (pv 7) pa_nil)) pa_nil)) (pg_name (i := 9) sc_l_spelt.nd rfl (.inl rfl)) (pss_one (ps_if (PW.pt (pw_and (pt_cmpR (op_neU hu) (pe_ix ix_seq (pv 8) (pv 9) (fun _ _ => rfl)) pe_str (nomark _)) (pw_and (pt_cmpR op_ninU (pe_ix ix_seq (pv 8) (pv 9) (fun _ _ => rfl)) (pe_ix ix_seq (pv 1) pe_int (fun _ _ => rfl)) (by rfl)) (pw_and (pt_cmpR (op_neU hu) (pe_ix ix_seq (pv 8) (pv 9) (fun _ _ => rfl)) (pe_ix ix_seq (pv 1) pe_int (fun _ _ => rfl)) (nomark _)) (pw_and1 (pt_cmpR (op_eqU hu) (pe_call (ok_l_take T) (hr.mono (by decide)) (by rfl) T.l_take_g T.l_take_f.kp T.l_take_b .nil pass0 (pa_cons (pv 0) (pa_cons pe_int pa_nil))) pe_int (nomark _))))))) (pss_one (ps_asg (pe_ix ix_seq (pv 8) (pv 9) (fun _ _ => rfl)) (pg_sub (pv 7) (pv 9) set_list))) pss_nil))))) pss_nil)
      (pss_cons (ps_set (i := 10) sc_l_spelt.nd rfl (.inl rfl) (pe_ifExp (pt_cmpR (op_neU hu) (pe_ix ix_seq (pv 1) pe_int (fun _ _ => rfl)) pe_str (nomark _)) (pe_op op_modN (pe_op op_sub pe_int (pe_callB c_lenU (by rfl) T.n_len (by decide +kernel) (pa_cons (pv 7) pa_nil))) (pe_call (ok_l_group T) (hr.mono (by decide)) (by rfl) T.l_group_g T.l_group_f.kp T.l_group_b .nil pass0 (pa_cons (pv 1) pa_nil))) pe_int))
      (pss_cons (ps_set (i := 11) sc_l_spelt.nd rfl (.inl rfl) (pe_dget (hu_of hr) (pe_disp (pps_cons pe_str (pv 10) (pps_cons pe_str pe_int (pps_cons pe_str (pe_call (ok_l_of T) (hr.mono (by decide)) (by rfl) T.l_of_g T.l_of_f.kp T.l_of_b .nil pass0 (pa_cons (pv 0) (pa_cons (pe_lst (pa_cons pe_int (pa_cons (pv 10) pa_nil))) pa_nil))) (pps_cons pe_str (pe_call (ok_l_take T) (hr.mono (by decide)) (by rfl) T.l_take_g T.l_take_f.kp T.l_take_b .nil pass0 (pa_cons (pv 0) (pa_cons pe_int pa_nil))) pps_nil)))) (by rfl) (by rfl) (fun h => nomatch h) (by decide)) (pe_ix ix_seq (pv 2) pe_int (fun _ _ => rfl)) (fun _ _ => rfl)))
      (pss_one (ps_ret (pe_op op_addU (pv 7) (pe_op op_mulU (pe_lst (pa_cons (pe_ix ix_seq (pv 1) pe_int (fun _ _ => rfl)) pa_nil)) (pe_ifExp (pt_cmpR (op_neU hu) (pe_ix ix_seq (pv 1) pe_int (fun _ _ => rfl)) pe_str (nomark _)) (pv 11) pe_int)))))))))))


end
section
variable {w : World} {K : PySem.W.Frag} {mg : Str → Option Value} {base : Heap}
local macro_rules | `(tactic| walk_at "hc") => `(tactic| first
  | assumption
  | ((refine CodeAt.same (H := ?xH) ?xb ?xa); (case xa => assumption); (case xb => walk_at "hc")))
local macro_rules | `(tactic| walk_at "rd0") => `(tactic| first
  | ((with_reducible refine r_get (a := ?xa) (c := ?xc) ?x1 ?x2 ?_); (case x1 => rfl); (case x2 => walk_at "hc"))
  | ((with_reducible refine r_methC (a := ?xa) (c := ?xc) ?x1 ?x2 ?x3 ?_); (case x1 => rfl); (case x2 => walk_at "hc"); (case x3 => (intro _ _ _; rfl)))
  | (with_reducible refine r_fmtB ?_)
  | (with_reducible refine r_dget ?_)
  | (with_reducible refine r_m0 ?_)
  | (with_reducible refine r_makeK ?_)
  | (with_reducible refine r_cval ?_)
  | (with_reducible refine r_sfld ?_)
  | (with_reducible refine r_isiI ?_)
  | (with_reducible refine r_isiIB ?_)
  | (with_reducible refine r_isiS ?_)
  | (with_reducible refine r_inID ?_))

local macro_rules | `(tactic| walk_at "hcr") => `(tactic| first
  | assumption
  | ((refine RulesAt.same (H := ?xH) ?xb ?xa); (case xa => assumption); (case xb => walk_at "hcr")))
local macro_rules | `(tactic| walk_at "rd0") => `(tactic| first
  | ((with_reducible refine r_getR (a := ?xa) (r := ?xr) ?x1 ?x2 ?_); (case x1 => rfl); (case x2 => walk_at "hcr")))

set_option hygiene false in
local macro_rules | `(tactic| walk_at "n1") => `(tactic| (refine And.intro (by walk_at "sz") ?_; intro p1 np1; generalize hg : upd _ p1 _ = H1; have s1 := same_of hg np1; have v1 := at_of hg; clear hg))
set_option hygiene false in
local macro_rules | `(tactic| walk_at "n2") => `(tactic| (refine And.intro (by walk_at "sz") ?_; intro p2 np2; generalize hg : upd _ p2 _ = H2; have s2 := same_of hg np2; have v2 := at_of hg; clear hg))
set_option hygiene false in
local macro_rules | `(tactic| walk_at "n3") => `(tactic| (refine And.intro (by walk_at "sz") ?_; intro p3 np3; generalize hg : upd _ p3 _ = H3; have s3 := same_of hg np3; have v3 := at_of hg; clear hg))
set_option hygiene false in
local macro_rules | `(tactic| walk_at "n4") => `(tactic| (refine And.intro (by walk_at "sz") ?_; intro p4 np4; generalize hg : upd _ p4 _ = H4; have s4 := same_of hg np4; have v4 := at_of hg; clear hg))

/-! ### noise, a right text -/
theorem cells_tx (l : List Nat) : ((tx l).cps.toList.map fun c => V.str ⟨#[c]⟩) = rowV l := by rw [tx_list]; rfl
def sp_l_noisy (T : Txt K mg) : Sp := fun vs H Q _ => ∃ (b q : Addr) (r : RD) (l : List Nat) (N : Nat), vs = [.ref b, .ref q, .str (tx l)] ∧ BagAt H b (N + 2000) ∧ RTup H q r ∧ r.Ok ∧ q ≠ b ∧ l.length ≤ 1100 ∧ Chs l ∧
  ∀ l' H', SameB b H H' → BagAt H' b N → Chs l' → l'.length ≤ l.length + 500 → Q (.str (tx l')) H'
theorem len_l_noisy (T : Txt K mg) (vs : List V) (H : Hp) (Q : VK) (E : XK) (h : sp_l_noisy T vs H Q E) : vs.length = 3 := by
  obtain ⟨_, _, _, _, _, rfl, _⟩ := h
  rfl
def t_l_noisy (T : Txt K mg) : TS := (tSeq (tIfS (tTest (tOp (rEqU K) (tOp (rIx K) (tVar 1) (tC (.int 1))) (tC (.str (Str.ofString ""))))) (tRet (tVar 2)) tNext)
    (tSeq (tAsg (tC (.str (Str.ofString ""))) (gName 3))
    (tSeq (tFor (iSeqU K (tVar 2)) (gName 4) (tSeq (tWhile (tAnd (tTest (tOp (rEqU K) (tCall (sp_l_take T) [] E0 (tCons (tVar 0) (tCons (tC (.int 4)) tNil))) (tC (.int 0)))) (tTest (tOp rLtI (tCB (rLenU K) (tCons (tVar 3) tNil)) (tC (.int 400))))) (tAsg (tOp (rAddU K) (tVar 3) (tCall (sp_l_of T) [] E0 (tCons (tVar 0) (tCons (tCB rListTx (tCons (tOp (rIx K) (tVar 1) (tC (.int 1))) tNil)) tNil)))) (gName 3)))
    (tAsg (tOp (rAddU K) (tVar 3) (tVar 4)) (gName 3))))
    (tRet (tOp (rAddU K) (tVar 3) (tCall (sp_l_of T) [] E0 (tCons (tVar 0) (tCons (tLst (tCons (tC (.str (Str.ofString ""))) (tCons (tOp (rIx K) (tVar 1) (tC (.int 1))) (tCons (tSl (rSlU K) (tOp (rIx K) (tVar 1) (tC (.int 1))) tNoPart (tPart (tC (.int 1)))) tNil)))) tNil))))))))

theorem pure_l_noisy (T : Txt K mg) (vs : List V) (H : Hp) (Q : VK) (E : XK) (h : sp_l_noisy T vs H Q E) : t_l_noisy T { nx := fun _ H' => Q .non H', rt := Q } (start ["_law_bag_here", "_law_ruled_here", "_law_text", "_law_found", "_law_one"] vs) H := by
  obtain ⟨b, q, r, l, N, rfl, hB, hq, ro, qb, hl, chl, k⟩ := h
  unfold RTup at hq
  have rl := ro.ln
  have rc := ro.ch
  unfold t_l_noisy
  walk_at "rd"
  refine r_iteD (fun h1 => ?_) (fun h1 => ?_)
  · walk_at "rd"
    exact k l H (toB (Same.refl _)) (hB.mono (by omega)) chl (by omega)
  have sk0 : 1 ≤ r.skip.length := Nat.pos_of_ne_zero fun z => h1 (by rw [List.eq_nil_of_length_eq_zero z]; rfl)
  walk_at "rd"
  refine r_iseqS ?_
  walk_at "rd"
  refine ⟨tx l, rfl, ?_⟩
  refine f_it walk_str (fun i σ G => ∃ v4, ∃ (f : List Nat) (nz : Nat), σ = [some (.ref b), some (.ref q), some (.str (tx l)), some (.str (tx f)), v4] ∧ SameB b H G ∧ f.length = i + nz ∧ nz ≤ 400 ∧ BagAt G b (N + 1 + (l.length - i) + 2 * (400 - nz)) ∧ Chs f)
    ⟨none, [], 0, rfl, toB (Same.refl _), rfl, Nat.zero_le _, hB.mono (by omega), fun x h => nomatch h⟩ (fun _ _ _ _ _ => trivial) ?_ ?_
  · rintro i x σ G G' hi ⟨v4, f, nz, rfl, sG, hf, hnz, hb, chf⟩ ⟨rfl, ch, hch, rfl⟩
    have hli : l[i]? = some ch := by
      have e : (tx l).cps[i]? = l[i]? := by simp [tx]
      rw [← e]
      exact hch
    have hi2 : i < l.length := (List.getElem?_eq_some_iff.mp hli).1
    have chc := chl ch (List.mem_of_getElem? hli)
    walk_at "rx"
    refine r_seqC (fun σ G => ∃ (f : List Nat) (nz : Nat), σ = [some (.ref b), some (.ref q), some (.str (tx l)), some (.str (tx f)), some (.str (tx [ch]))] ∧ SameB b H G ∧ f.length = i + nz ∧ nz ≤ 400 ∧ BagAt G b (N + 1 + (l.length - (i + 1)) + 2 * (400 - nz)) ∧ Chs f) ?_ fun N' tail => ?_
    rotate_left
    · refine r_while (fun σ G => ∃ (f : List Nat) (nz : Nat), σ = [some (.ref b), some (.ref q), some (.str (tx l)), some (.str (tx f)), some (.str (tx [ch]))] ∧ SameB b H G ∧ f.length = i + nz ∧ nz ≤ 400 ∧ BagAt G b (N + 1 + (l.length - i) + 2 * (400 - nz)) ∧ Chs f) (fun σ _ => match σ with | [_, _, _, some (.str z), _] => 1000000 - z.length | _ => 0) (fun σ G => ∃ (f : List Nat) (nz : Nat), σ = [some (.ref b), some (.ref q), some (.str (tx l)), some (.str (tx f)), some (.str (tx [ch]))] ∧ SameB b H G ∧ f.length = i + nz ∧ nz ≤ 400 ∧ BagAt G b (N + 1 + (l.length - (i + 1)) + 2 * (400 - nz)) ∧ Chs f) ⟨f, nz, rfl, sG, hf, hnz, hb, chf⟩ (fun σ G h => tail σ G h) ?_
      rintro σ G2 ⟨f, nz, rfl, s2, hf, hnz, hb2, chf⟩ ex
      have zf : (tx f).length ≤ sizeLine := smallS (by rw [tx_len]; omega)
      walk_at "rd"
      refine ⟨b, 4, N + (l.length - i) + 2 * (400 - nz), rfl, hb2.mono (by omega), by decide, by decide, fun v G3 v0 v1 hb3 sb3 => ?_⟩
      have out := ex [some (.ref b), some (.ref q), some (.str (tx l)), some (.str (tx f)), some (.str (tx [ch]))] G3 ⟨f, nz, rfl, s2.trans sb3, hf, hnz, hb3.mono (by omega), chf⟩
      walk_at "rd"
      refine r_iteD (fun c1 => ?_) (fun c1 => ?_)
      · walk_at "rd"
        refine r_lenUS zf ?_
        rw [tx_len]
        walk_at "rd"
        refine r_iteD (fun c2 => ?_) (fun c2 => ?_)
        · refine r_turn ?_
          have hq3 := sb3 _ _ qb (s2 _ _ qb hq)
          walk_at "rd"
          refine r_listTx (smallS (by rw [tx_len]; omega)) fun L nL => ?_
          rw [cells_tx]
          generalize hgx : upd _ L _ = G4
          have s4 := same_of hgx nL
          have v4 := at_of hgx
          clear hgx
          walk_at "rd"
          refine ⟨b, L, _, N + (l.length - i) + 2 * (400 - nz) - 1, rfl, ql v4, hb3.ne nL, (hb3.same s4).mono (by omega), by unfold rowV; rw [List.length_map]; exact sk0, by unfold rowV; rw [List.length_map]; omega, fun io xo G5 ho hb5 sb5 => ?_⟩
          unfold rowV at ho
          rw [List.getElem?_map] at ho
          obtain ⟨sc, hsc, rfl⟩ := Option.map_eq_some_iff.mp ho
          have csc := rc sc (List.mem_of_getElem? hsc)
          walk_at "rd"
          refine r_addUS (smallS (by rw [tx_len, tx_len]; show _ + 1 ≤ 100000; omega)) ?_
          rw [tx_app]
          walk_at "rd"
          refine ⟨⟨f ++ [sc], nz + 1, rfl, s2.trans (sb3.trans ((toB s4).trans sb5)), by rw [List.length_append]; show _ + 1 = _; omega, by omega, hb5.mono (by omega), fun x hx => ?_⟩, ?_⟩
          · rcases List.mem_append.mp hx with hx | hx
            · exact chf x hx
            · rw [List.mem_singleton.mp hx]; exact csc
          · show 1000000 - (tx (f ++ [sc])).length < 1000000 - (tx f).length
            rw [tx_len, tx_len, List.length_append]
            show 1000000 - (f.length + 1) < _
            omega
        · exact out
      · exact out
    rintro σ G2 ⟨f, nz, rfl, s2, hf, hnz, hb2, chf⟩
    walk_at "rd"
    refine r_addUS (smallS (by rw [tx_len, tx_len]; show _ + 1 ≤ 100000; omega)) ?_
    rw [tx_app]
    walk_at "rd"
    refine ⟨_, f ++ [ch], nz, rfl, s2, by rw [List.length_append]; show _ + 1 = _; omega, hnz, hb2, fun x hx => ?_⟩
    rcases List.mem_append.mp hx with hx | hx
    · exact chf x hx
    · rw [List.mem_singleton.mp hx]; exact chc
  · rintro σ G ⟨v4, f, nz, rfl, sG, hf, hnz, hb, chf⟩
    rw [show (tx l).cps.size = l.length by simp [tx]] at hf hb
    have hqG := sG _ _ qb hq
    walk_at "rd"
    refine r_slUS (smallS (by rw [tx_len]; omega)) ?_
    rw [show (1 : Int) = ((1 : Nat) : Int) from rfl, cut_take sk0]
    walk_at "rd"
    refine And.intro (by show 3 ≤ sizeLine; decide) fun L nL => ?_
    generalize hgx : upd _ L _ = G4
    have s4 := same_of hgx nL
    have v4 := at_of hgx
    clear hgx
    walk_at "rd"
    refine ⟨b, L, _, N, rfl, ql v4, hb.ne nL, (hb.same s4).mono (by omega), by show 0 < 3; decide, by show 3 < 1000000; decide, fun io xo G5 ho hb5 sb5 => ?_⟩
    obtain ⟨t, rfl, ht, hc⟩ : ∃ t : List Nat, xo = .str (tx t) ∧ t.length ≤ 100 ∧ Chs t := by
      match io, ho with
      | 0, ho => exact ⟨[], (Option.some.inj ho).symm, Nat.zero_le _, fun x h => nomatch h⟩
      | 1, ho => exact ⟨r.skip, (Option.some.inj ho).symm, rl, rc⟩
      | 2, ho => exact ⟨r.skip.take 1, (Option.some.inj ho).symm, by rw [List.length_take]; omega, fun x h => rc x (List.mem_of_mem_take h)⟩
      | io + 3, ho => cases ho
    refine r_addUS (smallS (by rw [tx_len, tx_len]; omega)) ?_
    rw [tx_app]
    exact k _ _ (sG.trans ((toB s4).trans sb5)) hb5 (fun x hx => (List.mem_append.mp hx).elim (chf x) (hc x)) (by rw [List.length_append]; omega)
theorem ok_l_noisy (T : Txt K mg) : FnOk P w K mg base CX0 3 T.l_noisy_a T.l_noisy_d ["_law_bag_here", "_law_ruled_here", "_law_text"] (sp_l_noisy T) := by
  refine T.l_noisy_f.ok sc_l_noisy (fun vs H Q E h => len_l_noisy T vs H Q E h) (fun cdv A outer s H vs Q E hr h => ⟨t_l_noisy T, PSs.nox ?_, pure_l_noisy T vs H Q E h⟩)
  have hu := hu64 hr
  exact (pss_cons (ps_if (pt_cmpR (op_eqU hu) (pe_ix ix_seq (pv 1) pe_int (fun _ _ => rfl)) pe_str (nomark _)) (pss_one (ps_ret (pv 2))) pss_nil)
      (pss_cons (ps_set (i := 3) sc_l_noisy.nd rfl (.inl rfl) pe_str)
      (pss_cons (ps_for PassesOwn.never rfl (pi_seqU (pv 2)) (pg_name (i := 4) sc_l_noisy.nd rfl (.inl rfl)) (pss_cons (ps_while PassesOwn.never (PW.pt (pw_and (pt_cmpR (op_eqU hu) (pe_call (ok_l_take T) (hr.mono (by decide)) (by rfl) T.l_take_g T.l_take_f.kp T.l_take_b .nil pass0 (pa_cons (pv 0) (pa_cons pe_int pa_nil))) pe_int (nomark _)) (pw_and1 (pt_cmpR op_lt (pe_callB c_lenU (by rfl) T.n_len (by decide +kernel) (pa_cons (pv 3) pa_nil)) pe_int (nomark _))))) (pss_one (ps_set (i := 3) sc_l_noisy.nd rfl (.inl rfl) (pe_op op_addU (pv 3) (pe_call (ok_l_of T) (hr.mono (by decide)) (by rfl) T.l_of_g T.l_of_f.kp T.l_of_b .nil pass0 (pa_cons (pv 0) (pa_cons (pe_callTy (call_listS rfl) (by rfl) T.n_list (by decide +kernel) (pa_cons (pe_ix ix_seq (pv 1) pe_int (fun _ _ => rfl)) pa_nil)) pa_nil)))))))
      (pss_one (ps_set (i := 3) sc_l_noisy.nd rfl (.inl rfl) (pe_op op_addU (pv 3) (pv 4))))))
      (pss_one (ps_ret (pe_op op_addU (pv 3) (pe_call (ok_l_of T) (hr.mono (by decide)) (by rfl) T.l_of_g T.l_of_f.kp T.l_of_b .nil pass0 (pa_cons (pv 0) (pa_cons (pe_lst (pa_cons pe_str (pa_cons (pe_ix ix_seq (pv 1) pe_int (fun _ _ => rfl)) (pa_cons (pe_slice sl_U (pe_ix ix_seq (pv 1) pe_int (fun _ _ => rfl)) po_none (po_some pe_int)) pa_nil)))) pa_nil)))))))))

theorem jn_chk {k : Nat} (h : 0 < k) : ∀ (n : Nat) (l : List Nat), l.length ≤ n → (KR.jn (chk k l)).length ≤ 2 * l.length ∧ ∀ x ∈ KR.jn (chk k l), x = 10 ∨ x ∈ l
  | 0, l, hl => by
    rw [List.eq_nil_of_length_eq_zero (Nat.le_zero.mp hl), chk_nil h]
    exact ⟨Nat.zero_le _, fun x h => nomatch h⟩
  | n + 1, l, hl => by
    by_cases e : l = []
    · rw [e, chk_nil h]
      exact ⟨Nat.zero_le _, fun x h => nomatch h⟩
    have l1 : 1 ≤ l.length := Nat.pos_of_ne_zero fun z => e (List.eq_nil_of_length_eq_zero z)
    obtain ⟨i1, i2⟩ := jn_chk h n (l.drop k) (by rw [List.length_drop]; omega)
    rw [chk_cons h e]
    by_cases e2 : l.drop k = []
    · rw [e2, chk_nil h]
      exact ⟨by show (l.take k).length ≤ _; rw [List.length_take]; omega, fun x hx => .inr (List.mem_of_mem_take hx)⟩
    · have ne : chk k (l.drop k) ≠ [] := by rw [chk_cons h e2]; simp
      have kl : k < l.length := Nat.lt_of_not_le fun z => e2 (List.drop_of_length_le z)
      rw [KR.jn_cons ne]
      refine ⟨?_, fun x hx => ?_⟩
      · rw [List.length_drop] at i1
        rw [List.length_append, List.length_cons, List.length_take]
        omega
      · rcases List.mem_append.mp hx with hx | hx
        · exact .inr (List.mem_of_mem_take hx)
        · rcases List.mem_cons.mp hx with rfl | hx
          · exact .inl rfl
          · exact (i2 x hx).imp id List.mem_of_mem_drop
theorem rows_bd (c : CodeD) {l : List Nat} (h : Chs l) : (rowsL c l).length ≤ 2 * l.length ∧ Chs (rowsL c l) := by
  unfold rowsL
  by_cases e : c.wd = 0
  · rw [if_pos e]
    exact ⟨by omega, h⟩
  · rw [if_neg e]
    have := jn_chk (Nat.pos_of_ne_zero e) _ l (Nat.le_refl _)
    exact ⟨this.1, fun x hx => (this.2 x hx).elim (fun z => .inl z) (h x)⟩
def sp_l_right_text (T : Txt K mg) : Sp := fun vs H Q _ => ∃ (b p q d : Addr) (c : CodeD) (r : RD) (xs : List Int) (N : Nat), vs = [.ref b, .ref p, .ref q, .ref d] ∧ BagAt H b (N + 2600) ∧ TupC H p c ∧ c.New ∧ RTup H q r ∧ r.Ok ∧ p ≠ b ∧ q ≠ b ∧ d ≠ b ∧ H d = some (.lst (xs.map V.int)) ∧ xs.length ≤ 60 ∧ Byts xs ∧
  ∀ l H', SameB b H H' → BagAt H' b N → Chs l → l.length ≤ 2000 → Q (.str (tx l)) H'
theorem len_l_right_text (T : Txt K mg) (vs : List V) (H : Hp) (Q : VK) (E : XK) (h : sp_l_right_text T vs H Q E) : vs.length = 4 := by
  obtain ⟨_, _, _, _, _, _, _, _, rfl, _⟩ := h
  rfl
def t_l_right_text (T : Txt K mg) : TS := (tSeq (tAsg (tCall (sp_l_spelt T) [] E0 (tCons (tVar 0) (tCons (tVar 1) (tCons (tVar 2) (tCons (tVar 3) tNil))))) (gName 4))
    (tRet (tCall (sp_l_noisy T) [] E0 (tCons (tVar 0) (tCons (tVar 2) (tCons (tIf (tB (tOp (rIx K) (tVar 2) (tC (.int 2)))) (tCall (sp_l_rows T) [] E0 (tCons (tVar 1) (tCons (tVar 4) tNil))) (tJoinU K (tC (.str (Str.ofString ""))) (tVar 4))) tNil))))))

theorem pure_l_right_text (T : Txt K mg) (vs : List V) (H : Hp) (Q : VK) (E : XK) (h : sp_l_right_text T vs H Q E) : t_l_right_text T { nx := fun _ H' => Q .non H', rt := Q } (start ["_law_bag_here", "_law_code_here", "_law_ruled_here", "_law_data_here", "_law_row"] vs) H := by
  obtain ⟨b, p, q, d, c, r, xs, N, rfl, hB, hp, nw, hq, ro, pb, qb, db, hd, hl, hx, k⟩ := h
  have hp' := hp
  have hq' := hq
  unfold RTup at hq
  unfold t_l_right_text
  walk_at "rd"
  refine ⟨b, p, q, d, c, r, xs, N + 2000, rfl, hB, hp', nw, hq', ro, pb, qb, db, hd, hl, hx, fun X l H1 s1 hb1 Xb hX chl ll => ?_⟩
  have hq1 := s1 _ _ qb hq
  have fin : ∀ (t : List Nat) (H2 : Hp), Same H1 H2 → Chs t → t.length ≤ 1100 → sp_l_noisy T [.ref b, .ref q, .str (tx t)] H2 Q E := fun t H2 s2 ct lt =>
    ⟨b, q, r, t, N, rfl, hb1.same s2, s2 _ _ hq1, ro, qb, lt, ct, fun l' H3 s3 hb3 c3 l3 => k l' H3 (s1.trans ((toB s2).trans s3)) hb3 c3 (by omega)⟩
  walk_at "rd"
  refine r_iteB (fun h1 => ?_) (fun h1 => ?_)
  · walk_at "rd"
    refine ⟨p, X, c, l, rfl, s1 _ _ pb hp', hX, by omega, nw.1.wd76, fun H2 s2 => ?_⟩
    have rb := rows_bd c chl
    walk_at "rd"
    exact fin _ H2 s2 rb.2 (by omega)
  · walk_at "rd"
    refine r_join ?_ rfl
    walk_at "rd"
    refine ⟨_, X, l.map fun ch => tx [ch], rfl, rfl, .inl (ql (by rw [← cell_map]; exact hX)), ?_, ?_⟩
    · have e0 : (Str.ofString "").length = 0 := rfl
      rw [e0, Nat.mul_zero, Nat.add_zero, sum_one]
      omega
    rw [join_ch]
    exact fin _ H1 (Same.refl _) chl (by omega)
theorem ok_l_right_text (T : Txt K mg) : FnOk P w K mg base CX0 4 T.l_right_text_a T.l_right_text_d ["_law_bag_here", "_law_code_here", "_law_ruled_here", "_law_data_here"] (sp_l_right_text T) := by
  refine T.l_right_text_f.ok sc_l_right_text (fun vs H Q E h => len_l_right_text T vs H Q E h) (fun cdv A outer s H vs Q E hr h => ⟨t_l_right_text T, PSs.nox ?_, pure_l_right_text T vs H Q E h⟩)
  have hu := hu64 hr
  exact (pss_cons (ps_set (i := 4) sc_l_right_text.nd rfl (.inl rfl) (pe_call (ok_l_spelt T) (hr.mono (by decide)) (by rfl) T.l_spelt_g T.l_spelt_f.kp T.l_spelt_b .nil pass0 (pa_cons (pv 0) (pa_cons (pv 1) (pa_cons (pv 2) (pa_cons (pv 3) pa_nil))))))
      (pss_one (ps_ret (pe_call (ok_l_noisy T) (hr.mono (by decide)) (by rfl) T.l_noisy_g T.l_noisy_f.kp T.l_noisy_b .nil pass0 (pa_cons (pv 0) (pa_cons (pv 2) (pa_cons (pe_ifExp (pt_val (pe_ix ix_seq (pv 2) pe_int (fun _ _ => rfl))) (pe_call (ok_l_rows T) (hr.mono (by decide)) (by rfl) T.l_rows_g T.l_rows_f.kp T.l_rows_b .nil pass0 (pa_cons (pv 1) (pa_cons (pv 4) pa_nil))) (pe_join pe_str (pv 4))) pa_nil)))))))


end
section
variable {w : World} {K : PySem.W.Frag} {mg : Str → Option Value} {base : Heap}
local macro_rules | `(tactic| walk_at "hc") => `(tactic| first
  | assumption
  | ((refine CodeAt.same (H := ?xH) ?xb ?xa); (case xa => assumption); (case xb => walk_at "hc")))
local macro_rules | `(tactic| walk_at "rd0") => `(tactic| first
  | ((with_reducible refine r_get (a := ?xa) (c := ?xc) ?x1 ?x2 ?_); (case x1 => rfl); (case x2 => walk_at "hc"))
  | ((with_reducible refine r_methC (a := ?xa) (c := ?xc) ?x1 ?x2 ?x3 ?_); (case x1 => rfl); (case x2 => walk_at "hc"); (case x3 => (intro _ _ _; rfl)))
  | (with_reducible refine r_fmtB ?_)
  | (with_reducible refine r_dget ?_)
  | (with_reducible refine r_m0 ?_)
  | (with_reducible refine r_makeK ?_)
  | (with_reducible refine r_cval ?_)
  | (with_reducible refine r_sfld ?_)
  | (with_reducible refine r_isiI ?_)
  | (with_reducible refine r_isiIB ?_)
  | (with_reducible refine r_isiS ?_)
  | (with_reducible refine r_inID ?_))

local macro_rules | `(tactic| walk_at "hcr") => `(tactic| first
  | assumption
  | ((refine RulesAt.same (H := ?xH) ?xb ?xa); (case xa => assumption); (case xb => walk_at "hcr")))
local macro_rules | `(tactic| walk_at "rd0") => `(tactic| first
  | ((with_reducible refine r_getR (a := ?xa) (r := ?xr) ?x1 ?x2 ?_); (case x1 => rfl); (case x2 => walk_at "hcr")))

set_option hygiene false in
local macro_rules | `(tactic| walk_at "n1") => `(tactic| (refine And.intro (by walk_at "sz") ?_; intro p1 np1; generalize hg : upd _ p1 _ = H1; have s1 := same_of hg np1; have v1 := at_of hg; clear hg))
set_option hygiene false in
local macro_rules | `(tactic| walk_at "n2") => `(tactic| (refine And.intro (by walk_at "sz") ?_; intro p2 np2; generalize hg : upd _ p2 _ = H2; have s2 := same_of hg np2; have v2 := at_of hg; clear hg))
set_option hygiene false in
local macro_rules | `(tactic| walk_at "n3") => `(tactic| (refine And.intro (by walk_at "sz") ?_; intro p3 np3; generalize hg : upd _ p3 _ = H3; have s3 := same_of hg np3; have v3 := at_of hg; clear hg))
set_option hygiene false in
local macro_rules | `(tactic| walk_at "n4") => `(tactic| (refine And.intro (by walk_at "sz") ?_; intro p4 np4; generalize hg : upd _ p4 _ = H4; have s4 := same_of hg np4; have v4 := at_of hg; clear hg))

/-! ### a text with one thing otherwise -/
theorem cut_dropL (l : List Nat) (k : Nat) : cutS (tx l) (some (k : Int)) none = tx (l.drop k) := by
  unfold cutS
  rw [tx_len, HT.sIx_none, HT.sIx_nat, tx_list]
  show tx ((l.drop (min k l.length)).take (l.length - min k l.length)) = _
  rw [List.take_of_length_le (by rw [List.length_drop]; exact Nat.le_refl _)]
  by_cases h : k ≤ l.length
  · rw [Nat.min_eq_left h]
  · rw [Nat.min_eq_right (by omega), List.drop_of_length_le (Nat.le_refl _), List.drop_of_length_le (by omega)]
theorem cut_takeL (l : List Nat) (k : Nat) : cutS (tx l) none (some (k : Int)) = tx (l.take k) := by
  unfold cutS
  rw [tx_len, HT.sIx_none, HT.sIx_nat, tx_list]
  show tx ((l.drop 0).take (min k l.length - 0)) = _
  rw [List.drop_zero, Nat.sub_zero]
  by_cases h : k ≤ l.length
  · rw [Nat.min_eq_left h]
  · rw [Nat.min_eq_right (by omega), List.take_of_length_le (Nat.le_refl _), List.take_of_length_le (by omega)]
theorem cut_one (l : List Nat) (k : Nat) : ∃ t, cutS (tx l) (some (k : Int)) (some ((k : Int) + 1)) = tx t ∧ t.length ≤ 1 ∧ ∀ x ∈ t, x ∈ l := by
  refine ⟨(l.drop (min k l.length)).take (min (k + 1) l.length - min k l.length), ?_, by rw [List.length_take]; omega, fun x hx => List.mem_of_mem_drop (List.mem_of_mem_take hx)⟩
  unfold cutS
  rw [tx_len, show (k : Int) + 1 = ((k + 1 : Nat) : Int) by omega, HT.sIx_nat, HT.sIx_nat, tx_list]
  rfl
theorem Chs.take {a : List Nat} (h : Chs a) (k : Nat) : Chs (a.take k) := fun x hx => h x (List.mem_of_mem_take hx)
theorem Chs.drop {a : List Nat} (h : Chs a) (k : Nat) : Chs (a.drop k) := fun x hx => h x (List.mem_of_mem_drop hx)
theorem oc_chs (l : List Nat) : Chs (l.map oc).flatten := fun x hx => by
  obtain ⟨y, hy, hx⟩ := List.mem_flatten.mp hx
  obtain ⟨ch, _, rfl⟩ := List.mem_map.mp hy
  have l1 := oc_len ch
  match h : oc ch, l1, hx with
  | [d], _, hx => rw [List.mem_singleton.mp hx]; exact oc_ch h
theorem oc_flat (l : List Nat) : (l.map oc).flatten.length ≤ l.length := by
  have := flat_le (m := 1) (l.map oc) fun p hp => by
    obtain ⟨ch, _, rfl⟩ := List.mem_map.mp hp
    exact oc_len ch
  rw [List.length_map, Nat.mul_one] at this
  exact this
theorem rowV_app (a b : List Nat) : rowV a ++ rowV b = rowV (a ++ b) := by unfold rowV; rw [List.map_append]
theorem rowV_len (l : List Nat) : (rowV l).length = l.length := List.length_map _
theorem row_at {l : List Nat} {i : Nat} {x : V} (h : (rowV l)[i]? = some x) : ∃ ch, l[i]? = some ch ∧ x = .str (tx [ch]) := by
  unfold rowV at h
  rw [List.getElem?_map] at h
  obtain ⟨ch, h1, h2⟩ := Option.map_eq_some_iff.mp h
  exact ⟨ch, h1, h2.symm⟩
def sp_l_bent (T : Txt K mg) : Sp := fun vs H Q _ => ∃ (b p q : Addr) (c : CodeD) (r : RD) (l : List Nat) (N : Nat), vs = [.ref b, .ref p, .ref q, .str (tx l)] ∧ BagAt H b (N + 4) ∧ TupC H p c ∧ c.New ∧ RTup H q r ∧ r.Ok ∧ p ≠ b ∧ q ≠ b ∧ Chs l ∧ l.length ≤ 10000 ∧
  ∀ l' H', SameB b H H' → BagAt H' b N → Chs l' → l'.length ≤ l.length + 1 → Q (.str (tx l')) H'
theorem len_l_bent (T : Txt K mg) (vs : List V) (H : Hp) (Q : VK) (E : XK) (h : sp_l_bent T vs H Q E) : vs.length = 4 := by
  obtain ⟨_, _, _, _, _, _, _, rfl, _⟩ := h
  rfl
def t_l_bent (T : Txt K mg) : TS := (tSeq (tAsg (tJoinU K (tC (.str (Str.ofString ""))) (tLc (iSeqU K (tOp (rIx K) (tVar 1) (tC (.int 0)))) (gName 7) tYes (tCall (sp_l_other T) [] E0 (tCons (tVar 7) tNil)) [7])) (gName 4))
    (tSeq (tAsg (tOp (rAddU K) (tOp (rAddU K) (tCB rListTx (tCons (tSl (rSlU K) (tOp (rIx K) (tVar 1) (tC (.int 0))) tNoPart (tPart (tC (.int 3)))) tNil)) (tLst (tCons (tC (.str (Str.ofString "\n"))) (tCons (tOp (rIx K) (tOp (rIx K) (tVar 1) (tC (.int 0))) (tUn rNegI (tC (.int 1)))) (tCons (tC (.str (Str.ofString " "))) tNil))))) (tCB rListTx (tCons (tOp (rAddU K) (tOp (rAddU K) (tOp (rIx K) (tVar 1) (tC (.int 1))) (tOp (rIx K) (tVar 2) (tC (.int 1)))) (tSl (rSlU K) (tVar 4) tNoPart (tPart (tC (.int 2))))) tNil))) (gName 5))
    (tSeq (tPar 6 7 (tCons (tCall (sp_l_take T) [] E0 (tCons (tVar 0) (tCons (tOp (rAddU K) (tCB (rLenU K) (tCons (tVar 3) tNil)) (tC (.int 1))) tNil))) (tCons (tCall (sp_l_of T) [] E0 (tCons (tVar 0) (tCons (tOp (rAddU K) (tVar 5) (tCB rListTx (tCons (tCall (sp_l_of T) [] E0 (tCons (tVar 0) (tCons (tCB rListTx (tCons (tCall (sp_l_all_signs T) [] E0 tNil) tNil)) tNil))) tNil))) tNil))) tNil)))
    (tSeq (tAsg (tCall (sp_l_take T) [] E0 (tCons (tVar 0) (tCons (tC (.int 6)) tNil))) (gName 8))
    (tSeq (tIfS (tTest (tOp (rEqU K) (tVar 8) (tC (.int 0)))) (tRet (tOp (rAddU K) (tSl (rSlU K) (tVar 3) tNoPart (tPart (tVar 6))) (tSl (rSlU K) (tVar 3) (tPart (tOp (rAddU K) (tVar 6) (tC (.int 1)))) tNoPart))) tNext)
    (tSeq (tIfS (tTest (tOp (rEqU K) (tVar 8) (tC (.int 1)))) (tRet (tOp (rAddU K) (tOp (rAddU K) (tSl (rSlU K) (tVar 3) tNoPart (tPart (tVar 6))) (tSl (rSlU K) (tVar 3) (tPart (tVar 6)) (tPart (tOp (rAddU K) (tVar 6) (tC (.int 1)))))) (tSl (rSlU K) (tVar 3) (tPart (tVar 6)) tNoPart))) tNext)
    (tSeq (tIfS (tTest (tOp (rEqU K) (tVar 8) (tC (.int 2)))) (tRet (tSl (rSlU K) (tVar 3) tNoPart (tPart (tVar 6)))) tNext)
    (tSeq (tIfS (tTest (tOp (rEqU K) (tVar 8) (tC (.int 3)))) (tRet (tOp (rAddU K) (tOp (rAddU K) (tSl (rSlU K) (tVar 3) tNoPart (tPart (tVar 6))) (tVar 7)) (tSl (rSlU K) (tVar 3) (tPart (tOp (rAddU K) (tVar 6) (tC (.int 1)))) tNoPart))) tNext)
    (tRet (tIf (tTest (tOp (rEqU K) (tVar 8) (tC (.int 4)))) (tOp (rAddU K) (tOp (rAddU K) (tSl (rSlU K) (tVar 3) tNoPart (tPart (tVar 6))) (tVar 7)) (tSl (rSlU K) (tVar 3) (tPart (tVar 6)) tNoPart)) (tOp (rAddU K) (tVar 3) (tVar 7))))))))))))

theorem pure_l_bent (T : Txt K mg) (vs : List V) (H : Hp) (Q : VK) (E : XK) (h : sp_l_bent T vs H Q E) : t_l_bent T { nx := fun _ H' => Q .non H', rt := Q } (start ["_law_bag_here", "_law_code_here", "_law_ruled_here", "_law_text", "_law_both", "_law_near", "_law_spot", "_law_one", "_law_way"] vs) H := by
  obtain ⟨b, p, q, c, r, l, N, rfl, hB, hp, nw, hq, ro, pb, qb, chl, hl, k⟩ := h
  have ok := nw.1
  unfold TupC at hp
  unfold RTup at hq
  have rl := ro.ln
  have rc := ro.ch
  have zl : (tx l).length ≤ sizeLine := smallS (by rw [tx_len]; omega)
  obtain ⟨sg, esg, sg2, sg64, sgc⟩ : ∃ sg : List Nat, c.sg = tx sg ∧ 2 ≤ sg.length ∧ sg.length ≤ 64 ∧ Chs sg := by
    refine ⟨c.sg.cps.toList, by unfold tx; rw [Array.toArray_toList], ?_, ?_, fun x hx => (ok.sgs x hx).ch⟩
    · rw [Array.length_toList]
      have := ok.ln
      have h2 : 2 ^ 1 ≤ 2 ^ c.sb := Nat.pow_le_pow_right (by decide) ok.b1
      show 2 ≤ c.sg.length
      omega
    · rw [Array.length_toList]
      exact ok.l64
  obtain ⟨pl, epd, pl1, plc⟩ : ∃ pl : List Nat, c.pd = tx pl ∧ pl.length ≤ 1 ∧ Chs pl :=
    ⟨c.pd.cps.toList, by unfold tx; rw [Array.toArray_toList], by rw [Array.length_toList]; exact ok.pl, fun x hx => (ok.pds x hx).ch⟩
  rw [esg, epd] at hp
  have zsg : (tx sg).length ≤ sizeLine := smallS (by rw [tx_len]; omega)
  unfold t_l_bent
  walk_at "rx"
  refine r_seqC (fun σ G => ∃ bo : List Nat, σ = [some (.ref b), some (.ref p), some (.ref q), some (.str (tx l)), some (.str (tx bo)), none, none, none, none] ∧ Same H G ∧ Chs bo ∧ bo.length ≤ 64) ?_ fun N' tail => ?_
  rotate_left
  · walk_at "rd"
    refine r_join ?_ rfl
    walk_at "rd"
    refine r_iseqS ?_
    walk_at "rd"
    refine ⟨tx sg, rfl, fun D nD => ?_⟩
    refine c_it walk_str (fun i G => G D = some (.lst (((sg.take i).map fun ch => tx (oc ch)).map V.str)) ∧ Same H G) ⟨upd_same, same_new nD⟩ (fun _ _ _ _ => trivial) ?_ ?_
    · rintro i x G G' hi ⟨hD, sG⟩ ⟨rfl, ch, hch, rfl⟩
      have hli : sg[i]? = some ch := by
        have e : (tx sg).cps[i]? = sg[i]? := by simp [tx]
        rw [← e]
        exact hch
      have hi2 : i < sg.length := (List.getElem?_eq_some_iff.mp hli).1
      walk_at "rd"
      refine ⟨rfl, ?_⟩
      walk_at "rd"
      refine ⟨[ch], rfl, Nat.le_refl _, ?_⟩
      refine ⟨_, hD, ?_, ?_, same_mut sG nD⟩
      · rw [List.length_map, List.length_map, List.length_take]
        exact Nat.lt_of_le_of_lt (show _ ≤ 1000 by omega) (by rw [sizeLine_eq]; decide)
      · rw [upd_same, List.take_add_one, hli, List.map_append, List.map_append]
        rfl
    rintro G ⟨hD, sG⟩
    rw [show (tx sg).cps.size = sg.length by simp [tx], List.take_length] at hD
    have em : (sg.map fun ch => tx (oc ch)) = (sg.map oc).map tx := by rw [List.map_map]; rfl
    rw [em] at hD
    refine ⟨_, D, (sg.map oc).map tx, rfl, rfl, .inl (ql hD), ?_, ?_⟩
    · have e0 : (Str.ofString "").length = 0 := rfl
      have := sum_le (m := 1) (sg.map oc) fun p hp => by
        obtain ⟨ch, _, rfl⟩ := List.mem_map.mp hp
        exact oc_len ch
      rw [List.length_map] at this
      rw [e0, Nat.mul_zero, Nat.add_zero]
      omega
    rw [txt_join_tx]
    exact tail _ _ ⟨_, rfl, sG, oc_chs sg, Nat.le_trans (oc_flat sg) sg64⟩
  rintro σ G ⟨bo, rfl, sG, boc, bol⟩
  have hpG := sG _ _ hp
  have hqG := sG _ _ hq
  have hbG := hB.same sG
  walk_at "rx"
  refine r_seqC (fun σ G' => ∃ (L : Addr) (nr : List Nat), σ = [some (.ref b), some (.ref p), some (.ref q), some (.str (tx l)), some (.str (tx bo)), some (.ref L), none, none, none] ∧ Same G G' ∧ G' L = some (.lst (rowV nr)) ∧ Chs nr ∧ 1 ≤ nr.length ∧ nr.length ≤ 1000 ∧ L ≠ b) ?_ fun N' tail => ?_
  rotate_left
  · walk_at "rd"
    refine r_slUS zsg ?_
    rw [show (3 : Int) = ((3 : Nat) : Int) from rfl, cut_takeL]
    walk_at "rd"
    refine r_listTx (smallS (by rw [tx_len, List.length_take]; omega)) fun L1 nL1 => ?_
    rw [cells_tx]
    generalize hgx : upd _ L1 _ = G1
    have s1 := same_of hgx nL1
    have v1 := at_of hgx
    clear hgx
    have hp1 := s1 _ _ hpG
    have hq1 := s1 _ _ hqG
    walk_at "rd"
    refine r_negI ?_
    obtain ⟨lc, hlc, hlm⟩ : ∃ lc, atI sg (-1) = some lc ∧ lc ∈ sg := by
      cases e : sg.getLast? with
      | none => rw [List.getLast?_eq_none_iff.mp e] at sg2; simp at sg2
      | some x =>
        obtain ⟨ys, e2⟩ := List.getLast?_eq_some_iff.mp e
        exact ⟨x, by rw [e2]; exact atI_last ys x, by rw [e2]; simp⟩
    refine r_ixS zsg (by rw [tx_list]; exact hlc) ?_
    walk_at "rd"
    refine And.intro (by show 3 ≤ sizeLine; decide) fun L2 nL2 => ?_
    generalize hgx : upd G1 L2 _ = G2
    have s2 := same_of hgx nL2
    have v2 : G2 L2 = some (.lst (rowV [10, lc, 32])) := at_of hgx
    clear hgx
    have v12 := s2 _ _ v1
    refine r_addUL v12 v2 (by rw [rowV_len, rowV_len, List.length_take]; exact smallS (by show _ + 3 ≤ _; omega)) fun L3 nL3 => ?_
    rw [rowV_app]
    generalize hgx : upd G2 L3 _ = G3
    have s3 := same_of hgx nL3
    have v3 := at_of hgx
    clear hgx
    have hp3 := s3 _ _ (s2 _ _ hp1)
    have hq3 := s3 _ _ (s2 _ _ hq1)
    walk_at "rd"
    refine r_addUS (smallS (by rw [tx_len, tx_len]; omega)) ?_
    rw [tx_app]
    walk_at "rd"
    refine r_slUS (smallS (by rw [tx_len]; omega)) ?_
    rw [show (2 : Int) = ((2 : Nat) : Int) from rfl, cut_takeL]
    refine r_addUS (smallS (by rw [tx_len, tx_len, List.length_append, List.length_take]; omega)) ?_
    rw [tx_app]
    walk_at "rd"
    refine r_listTx (smallS (by rw [tx_len, List.length_append, List.length_append, List.length_take]; omega)) fun L4 nL4 => ?_
    rw [cells_tx]
    generalize hgx : upd _ L4 _ = G4
    have s4 := same_of hgx nL4
    have v4 := at_of hgx
    clear hgx
    refine r_addUL (s4 _ _ v3) v4 (by rw [rowV_len, rowV_len, List.length_append, List.length_append, List.length_append, List.length_take, List.length_take]; exact smallS (by show _ + 3 + _ ≤ _; omega)) fun L5 nL5 => ?_
    rw [rowV_app]
    generalize hgx : upd G4 L5 _ = G5
    have s5 := same_of hgx nL5
    have v5 := at_of hgx
    clear hgx
    have s05 := s1.trans (s2.trans (s3.trans (s4.trans s5)))
    have c3 : Chs [10, lc, 32] := fun x hx => by
      simp only [List.mem_cons, List.not_mem_nil, or_false] at hx
      rcases hx with rfl | rfl | rfl
      · exact .inl rfl
      · exact sgc x hlm
      · exact .inr (by decide)
    walk_at "rd"
    refine tail _ _ ⟨L5, _, rfl, s05, v5, ((sgc.take 3).app c3).app ((plc.app rc).app (boc.take 2)), ?_, ?_, ?_⟩
    · rw [List.length_append, List.length_append]
      show 1 ≤ _ + 3 + _
      omega
    · rw [List.length_append, List.length_append, List.length_append, List.length_append, List.length_take, List.length_take]
      show _ + 3 + _ ≤ _
      omega
    · exact (hbG.same (s1.trans (s2.trans (s3.trans s4)))).ne nL5
  rintro σ G2 ⟨L, nr, rfl, s2, hL, nrc, nr1, nr2, Lb⟩
  walk_at "rd"
  refine r_lenUS zl ?_
  rw [tx_len]
  walk_at "rd"
  refine ⟨b, (l.length : Int) + 1, N + 3, rfl, hbG.same s2, by omega, by omega, fun w H1 w0 w1 hb1 sb1 => ?_⟩
  obtain ⟨i, rfl⟩ : ∃ j : Nat, w = j := ⟨w.toNat, by omega⟩
  have hL1 := sb1 _ _ Lb hL
  walk_at "rd"
  refine ⟨rfl, ?_⟩
  walk_at "rd"
  refine r_listTx (smallS (by decide)) fun L6 nL6 => ?_
  rw [cells_tx]
  generalize hgx : upd _ L6 _ = H2
  have s3 := same_of hgx nL6
  have v3 := at_of hgx
  clear hgx
  walk_at "rd"
  refine ⟨b, L6, _, N + 2, rfl, ql v3, hb1.ne nL6, hb1.same s3, by rw [rowV_len]; decide, by rw [rowV_len]; decide, fun ia xa H3 ha hb3 sb3 => ?_⟩
  obtain ⟨ca, hca, rfl⟩ := row_at ha
  have cca := alls_ch ca (List.mem_of_getElem? hca)
  have hL3 := sb3 _ _ Lb (s3 _ _ hL1)
  walk_at "rd"
  refine r_listTx (smallS (by rw [tx_len]; show 1 ≤ 100000; decide)) fun L7 nL7 => ?_
  rw [cells_tx]
  generalize hgx : upd _ L7 _ = H4
  have s4 := same_of hgx nL7
  have v4 := at_of hgx
  clear hgx
  refine r_addUL (s4 _ _ hL3) v4 (by rw [rowV_len, rowV_len]; exact smallS (by show _ + 1 ≤ _; omega)) fun L8 nL8 => ?_
  rw [rowV_app]
  generalize hgx : upd H4 L8 _ = H5
  have s5 := same_of hgx nL8
  have v5 := at_of hgx
  clear hgx
  walk_at "rd"
  refine ⟨b, L8, _, N + 1, rfl, ql v5, (hb3.same s4).ne nL8, (hb3.same s4).same s5, by rw [rowV_len, List.length_append]; show 0 < _ + 1; omega, by rw [rowV_len, List.length_append]; show _ + 1 < _; omega, fun ib xb H6 hxb hb6 sb6 => ?_⟩
  obtain ⟨one, hone, rfl⟩ := row_at hxb
  have cone : Chs [one] := fun x hx => by
    rw [List.mem_singleton.mp hx]
    exact (nrc.app (b := [ca]) fun x hx => by rw [List.mem_singleton.mp hx]; exact cca) one (List.mem_of_getElem? hone)
  have S6 : SameB b H H6 := (toB (sG.trans s2)).trans (sb1.trans ((toB s3).trans (sb3.trans ((toB (s4.trans s5)).trans sb6))))
  refine ⟨_, _, rfl, ?_⟩
  walk_at "rd"
  refine ⟨b, 6, N, rfl, hb6, by decide, by decide, fun w H7 w0 w1 hb7 sb7 => ?_⟩
  have S7 := S6.trans sb7
  have t1 : (l.take i).length = i := by rw [List.length_take]; omega
  have t2 : (l.drop i).length = l.length - i := List.length_drop
  have t3 : (l.drop (i + 1)).length = l.length - (i + 1) := List.length_drop
  have k := fun l' => k l' H7 S7 hb7
  have ei : ((i : Nat) : Int) + 1 = ((i + 1 : Nat) : Int) := by omega
  walk_at "rd"
  refine r_iteD (fun c0 => ?_) (fun c0 => ?_)
  · walk_at "rd"
    refine r_slUS zl ?_
    rw [cut_takeL]
    walk_at "rd"
    refine r_slUS zl ?_
    rw [ei, cut_dropL]
    refine r_addUS (smallS (by rw [tx_len, tx_len]; omega)) ?_
    rw [tx_app]
    exact k _ ((chl.take i).app (chl.drop (i + 1))) (by rw [List.length_append]; omega)
  walk_at "rd"
  refine r_iteD (fun c1 => ?_) (fun c1 => ?_)
  · walk_at "rd"
    refine r_slUS zl ?_
    rw [cut_takeL]
    walk_at "rd"
    refine r_slUS zl ?_
    obtain ⟨t, et, tl, tm⟩ := cut_one l i
    rw [et]
    refine r_addUS (smallS (by rw [tx_len, tx_len]; omega)) ?_
    rw [tx_app]
    walk_at "rd"
    refine r_slUS zl ?_
    rw [cut_dropL]
    refine r_addUS (smallS (by rw [tx_len, tx_len, List.length_append]; omega)) ?_
    rw [tx_app]
    exact k _ (((chl.take i).app fun x hx => chl x (tm x hx)).app (chl.drop i)) (by rw [List.length_append, List.length_append]; omega)
  walk_at "rd"
  refine r_iteD (fun c2 => ?_) (fun c2 => ?_)
  · walk_at "rd"
    refine r_slUS zl ?_
    rw [cut_takeL]
    exact k _ (chl.take i) (by omega)
  walk_at "rd"
  refine r_iteD (fun c3 => ?_) (fun c3 => ?_)
  · walk_at "rd"
    refine r_slUS zl ?_
    rw [cut_takeL]
    walk_at "rd"
    refine r_addUS (smallS (by rw [tx_len, tx_len]; show _ + 1 ≤ _; omega)) ?_
    rw [tx_app]
    walk_at "rd"
    refine r_slUS zl ?_
    rw [ei, cut_dropL]
    refine r_addUS (smallS (by rw [tx_len, tx_len, List.length_append]; show _ + 1 + _ ≤ _; omega)) ?_
    rw [tx_app]
    exact k _ (((chl.take i).app cone).app (chl.drop (i + 1))) (by rw [List.length_append, List.length_append]; show _ + 1 + _ ≤ _; omega)
  walk_at "rd"
  refine r_iteD (fun c4 => ?_) (fun c4 => ?_)
  · walk_at "rd"
    refine r_slUS zl ?_
    rw [cut_takeL]
    walk_at "rd"
    refine r_addUS (smallS (by rw [tx_len, tx_len]; show _ + 1 ≤ _; omega)) ?_
    rw [tx_app]
    walk_at "rd"
    refine r_slUS zl ?_
    rw [cut_dropL]
    refine r_addUS (smallS (by rw [tx_len, tx_len, List.length_append]; show _ + 1 + _ ≤ _; omega)) ?_
    rw [tx_app]
    exact k _ (((chl.take i).app cone).app (chl.drop i)) (by rw [List.length_append, List.length_append]; show _ + 1 + _ ≤ _; omega)
  · walk_at "rd"
    refine r_addUS (smallS (by rw [tx_len, tx_len]; show _ + 1 ≤ _; omega)) ?_
    rw [tx_app]
    exact k _ (chl.app cone) (by rw [List.length_append]; show _ + 1 ≤ _; omega)
theorem ok_l_bent (T : Txt K mg) : FnOk P w K mg base CX0 3 T.l_bent_a T.l_bent_d ["_law_bag_here", "_law_code_here", "_law_ruled_here", "_law_text"] (sp_l_bent T) := by
  refine T.l_bent_f.ok sc_l_bent (fun vs H Q E h => len_l_bent T vs H Q E h) (fun cdv A outer s H vs Q E hr h => ⟨t_l_bent T, PSs.nox ?_, pure_l_bent T vs H Q E h⟩)
  have hu := hu64 hr
  exact (pss_cons (ps_set (i := 4) sc_l_bent.nd rfl (.inl rfl) (pe_join pe_str (pe_lc (own := [("_law_one", 7)]) (g := (gName 7)) (tt := tYes) rfl sc_l_bent.nd (pi_seqU (pe_ix ix_seq (pv 1) pe_int (fun _ _ => rfl))) (blkOk_by (own := [("_law_one", 7)]) (N := ["_law_bag_here", "_law_code_here", "_law_ruled_here", "_law_text", "_law_both", "_law_near", "_law_spot", "_law_one", "_law_way"]) (sc := defScope s_l_bent) (by decide +kernel)) (fun _ _ _ _ _ => (pg_name (i := 7) sc_l_bent.nd rfl (.inl rfl))) (fun _ _ _ _ _ => pts_nil) (fun _ _ _ _ _ => (pe_call (ok_l_other T) (hr.mono (by decide)) (by rfl) T.l_other_g T.l_other_f.kp T.l_other_b .nil pass0 (pa_cons (pv 7) pa_nil))))))
      (pss_cons (ps_set (i := 5) sc_l_bent.nd rfl (.inl rfl) (pe_op op_addU (pe_op op_addU (pe_callTy (call_listS rfl) (by rfl) T.n_list (by decide +kernel) (pa_cons (pe_slice sl_U (pe_ix ix_seq (pv 1) pe_int (fun _ _ => rfl)) po_none (po_some pe_int)) pa_nil)) (pe_lst (pa_cons pe_str (pa_cons (pe_ix ix_seq (pe_ix ix_seq (pv 1) pe_int (fun _ _ => rfl)) (pe_un un_neg pe_int) (fun _ _ => rfl)) (pa_cons pe_str pa_nil))))) (pe_callTy (call_listS rfl) (by rfl) T.n_list (by decide +kernel) (pa_cons (pe_op op_addU (pe_op op_addU (pe_ix ix_seq (pv 1) pe_int (fun _ _ => rfl)) (pe_ix ix_seq (pv 2) pe_int (fun _ _ => rfl))) (pe_slice sl_U (pv 4) po_none (po_some pe_int))) pa_nil))))
      (pss_cons (ps_par (i := 6) (j := 7) (by rfl) sc_l_bent.nd rfl rfl (by decide) rfl rfl (pa_cons (pe_call (ok_l_take T) (hr.mono (by decide)) (by rfl) T.l_take_g T.l_take_f.kp T.l_take_b .nil pass0 (pa_cons (pv 0) (pa_cons (pe_op op_addU (pe_callB c_lenU (by rfl) T.n_len (by decide +kernel) (pa_cons (pv 3) pa_nil)) pe_int) pa_nil))) (pa_cons (pe_call (ok_l_of T) (hr.mono (by decide)) (by rfl) T.l_of_g T.l_of_f.kp T.l_of_b .nil pass0 (pa_cons (pv 0) (pa_cons (pe_op op_addU (pv 5) (pe_callTy (call_listS rfl) (by rfl) T.n_list (by decide +kernel) (pa_cons (pe_call (ok_l_of T) (hr.mono (by decide)) (by rfl) T.l_of_g T.l_of_f.kp T.l_of_b .nil pass0 (pa_cons (pv 0) (pa_cons (pe_callTy (call_listS rfl) (by rfl) T.n_list (by decide +kernel) (pa_cons (pe_call0 (ok_l_all_signs T) (hr.mono (by decide)) (by rfl) T.l_all_signs_g T.l_all_signs_f.kp T.l_all_signs_b .nil pass0) pa_nil)) pa_nil))) pa_nil))) pa_nil))) pa_nil)) (by rfl))
      (pss_cons (ps_set (i := 8) sc_l_bent.nd rfl (.inl rfl) (pe_call (ok_l_take T) (hr.mono (by decide)) (by rfl) T.l_take_g T.l_take_f.kp T.l_take_b .nil pass0 (pa_cons (pv 0) (pa_cons pe_int pa_nil))))
      (pss_cons (ps_if (pt_cmpR (op_eqU hu) (pv 8) pe_int (nomark _)) (pss_one (ps_ret (pe_op op_addU (pe_slice sl_U (pv 3) po_none (po_some (pv 6))) (pe_slice sl_U (pv 3) (po_some (pe_op op_addU (pv 6) pe_int)) po_none)))) pss_nil)
      (pss_cons (ps_if (pt_cmpR (op_eqU hu) (pv 8) pe_int (nomark _)) (pss_one (ps_ret (pe_op op_addU (pe_op op_addU (pe_slice sl_U (pv 3) po_none (po_some (pv 6))) (pe_slice sl_U (pv 3) (po_some (pv 6)) (po_some (pe_op op_addU (pv 6) pe_int)))) (pe_slice sl_U (pv 3) (po_some (pv 6)) po_none)))) pss_nil)
      (pss_cons (ps_if (pt_cmpR (op_eqU hu) (pv 8) pe_int (nomark _)) (pss_one (ps_ret (pe_slice sl_U (pv 3) po_none (po_some (pv 6))))) pss_nil)
      (pss_cons (ps_if (pt_cmpR (op_eqU hu) (pv 8) pe_int (nomark _)) (pss_one (ps_ret (pe_op op_addU (pe_op op_addU (pe_slice sl_U (pv 3) po_none (po_some (pv 6))) (pv 7)) (pe_slice sl_U (pv 3) (po_some (pe_op op_addU (pv 6) pe_int)) po_none)))) pss_nil)
      (pss_one (ps_ret (pe_ifExp (pt_cmpR (op_eqU hu) (pv 8) pe_int (nomark _)) (pe_op op_addU (pe_op op_addU (pe_slice sl_U (pv 3) po_none (po_some (pv 6))) (pv 7)) (pe_slice sl_U (pv 3) (po_some (pv 6)) po_none)) (pe_op op_addU (pv 3) (pv 7)))))))))))))


end
section
variable {w : World} {K : PySem.W.Frag} {mg : Str → Option Value} {base : Heap}
local macro_rules | `(tactic| walk_at "hc") => `(tactic| first
  | assumption
  | ((refine CodeAt.same (H := ?xH) ?xb ?xa); (case xa => assumption); (case xb => walk_at "hc")))
local macro_rules | `(tactic| walk_at "rd0") => `(tactic| first
  | ((with_reducible refine r_get (a := ?xa) (c := ?xc) ?x1 ?x2 ?_); (case x1 => rfl); (case x2 => walk_at "hc"))
  | ((with_reducible refine r_methC (a := ?xa) (c := ?xc) ?x1 ?x2 ?x3 ?_); (case x1 => rfl); (case x2 => walk_at "hc"); (case x3 => (intro _ _ _; rfl)))
  | (with_reducible refine r_fmtB ?_)
  | (with_reducible refine r_dget ?_)
  | (with_reducible refine r_m0 ?_)
  | (with_reducible refine r_makeK ?_)
  | (with_reducible refine r_cval ?_)
  | (with_reducible refine r_sfld ?_)
  | (with_reducible refine r_isiI ?_)
  | (with_reducible refine r_isiIB ?_)
  | (with_reducible refine r_isiS ?_)
  | (with_reducible refine r_inID ?_))

local macro_rules | `(tactic| walk_at "hcr") => `(tactic| first
  | assumption
  | ((refine RulesAt.same (H := ?xH) ?xb ?xa); (case xa => assumption); (case xb => walk_at "hcr")))
local macro_rules | `(tactic| walk_at "rd0") => `(tactic| first
  | ((with_reducible refine r_getR (a := ?xa) (r := ?xr) ?x1 ?x2 ?_); (case x1 => rfl); (case x2 => walk_at "hcr")))

set_option hygiene false in
local macro_rules | `(tactic| walk_at "n1") => `(tactic| (refine And.intro (by walk_at "sz") ?_; intro p1 np1; generalize hg : upd _ p1 _ = H1; have s1 := same_of hg np1; have v1 := at_of hg; clear hg))
set_option hygiene false in
local macro_rules | `(tactic| walk_at "n2") => `(tactic| (refine And.intro (by walk_at "sz") ?_; intro p2 np2; generalize hg : upd _ p2 _ = H2; have s2 := same_of hg np2; have v2 := at_of hg; clear hg))
set_option hygiene false in
local macro_rules | `(tactic| walk_at "n3") => `(tactic| (refine And.intro (by walk_at "sz") ?_; intro p3 np3; generalize hg : upd _ p3 _ = H3; have s3 := same_of hg np3; have v3 := at_of hg; clear hg))
set_option hygiene false in
local macro_rules | `(tactic| walk_at "n4") => `(tactic| (refine And.intro (by walk_at "sz") ?_; intro p4 np4; generalize hg : upd _ p4 _ = H4; have s4 := same_of hg np4; have v4 := at_of hg; clear hg))

/-! ### a text is judged -/
theorem r_reprB {H : Hp} {Q : VK} {b : Bool} (h : Q (.str (PyData.bool b).shown) H) : rRepr K [.bl b] H Q := r_repr (d := .bool b) (.bl b) (by simp only [PyData.showable]) (smallS (by cases b <;> decide)) (by cases b <;> decide) h
def sp_l_right (T : Txt K mg) : Sp := fun vs H Q _ => ∃ a rr p q c r l, vs = [.ref a, .ref rr, .ref p, .ref q, .str (tx l)] ∧ CodeAt T H a c ∧ RulesAt T H rr r ∧ TupC H p c ∧ c.New ∧ RTup H q r ∧ r.Ok ∧ suitC c r = true ∧ l.length ≤ 12000 ∧ Chs l ∧
  ∀ H', Same H H' → Q (.bl true) H'
theorem len_l_right (T : Txt K mg) (vs : List V) (H : Hp) (Q : VK) (E : XK) (h : sp_l_right T vs H Q E) : vs.length = 5 := by
  obtain ⟨_, _, _, _, _, _, _, rfl, _⟩ := h
  rfl
def t_l_right (T : Txt K mg) : TS := (tRet (tOp (rEqU K) (tCB (rRepr K) (tCons (tCall (sp_is_right T) [] E0 (tCons (tVar 0) (tCons (tVar 4) (tCons (tVar 1) tNil)))) tNil)) (tCB (rRepr K) (tCons (tOp (rEqU K) (tCB (rLenU K) (tCons (tCall (sp_l_read T) [] E0 (tCons (tVar 2) (tCons (tVar 3) (tCons (tVar 4) tNil)))) tNil)) (tC (.int 1))) tNil))))

theorem pure_l_right (T : Txt K mg) (vs : List V) (H : Hp) (Q : VK) (E : XK) (h : sp_l_right T vs H Q E) : t_l_right T { nx := fun _ H' => Q .non H', rt := Q } (start ["_law_real", "_law_own", "_law_code_here", "_law_ruled_here", "_law_text"] vs) H := by
  obtain ⟨a, rr, p, q, c, r, l, rfl, hc, hr, hp, nw, hq, ro, hs, hl, chl, k⟩ := h
  unfold t_l_right
  walk_at "rd"
  refine ⟨a, _, rr, c, r, rfl, hc, hr, hs, .inl ⟨l, rfl, hl, chl, fun H1 s1 => ?_⟩⟩
  walk_at "rd"
  refine r_reprB ?_
  walk_at "rd"
  refine ⟨p, q, c, r, l, rfl, s1 _ _ hp, nw, s1 _ _ hq, ro, hl, fun ds s e1 e2 D X H2 s2 hD hX => ?_, fun ds s e1 e2 X H2 s2 hX => ?_, fun i ch ds s hi e1 e2 X H2 s2 hX => ?_⟩
  · have eF : finC c r l = some ds := by
      unfold finC
      rw [e1]
      exact if_pos e2
    rw [eF, Option.isSome_some]
    walk_at "rd"
    refine r_reprB ?_
    walk_at "rd"
    exact (congrArg (fun z : Bool => Q (.bl z) H2) (decide_eq_true rfl)).mpr (k H2 (s1.trans s2))
  · have eF : finC c r l = none := by
      unfold finC
      rw [e1]
      exact if_neg (by rw [e2]; exact Bool.false_ne_true)
    rw [eF, Option.isSome_none]
    walk_at "rd"
    refine r_reprB ?_
    walk_at "rd"
    exact (congrArg (fun z : Bool => Q (.bl z) H2) (decide_eq_true rfl)).mpr (k H2 (s1.trans s2))
  · have eF : finC c r l = none := by
      unfold finC
      rw [(folC_snoc hi e1).1 e2]
      rfl
    rw [eF, Option.isSome_none]
    walk_at "rd"
    refine r_reprB ?_
    walk_at "rd"
    exact (congrArg (fun z : Bool => Q (.bl z) H2) (decide_eq_true rfl)).mpr (k H2 (s1.trans s2))
theorem ok_l_right (T : Txt K mg) : FnG P w K mg base CX0 8 T.l_right_a T.l_right_d ["_law_real", "_law_own", "_law_code_here", "_law_ruled_here", "_law_text"] (sp_l_right T) := by
  refine fnG_ok T.l_right_f sc_l_right (fun vs H Q E h => len_l_right T vs H Q E h) (fun cdv A outer s H vs Q E hG hr h => ⟨t_l_right T, PSs.nox ?_, pure_l_right T vs H Q E h⟩)
  have hu := hu64 hr
  exact (pss_one (ps_ret (pe_cmpR (op_eqU hu) (pe_callB (c_repr hG hu) (by rfl) T.n_repr (by decide +kernel) (pa_cons (pe_call (ok_is_right T) (hr.mono (by decide)) (by rfl) T.is_right_g T.is_right_f.kp T.is_right_b .nil pass0 (pa_cons (pv 0) (pa_cons (pv 4) (pa_cons (pv 1) pa_nil)))) pa_nil)) (pe_callB (c_repr hG hu) (by rfl) T.n_repr (by decide +kernel) (pa_cons (pe_cmpR (op_eqU hu) (pe_callB c_lenU (by rfl) T.n_len (by decide +kernel) (pa_cons (pe_call (ok_l_read T) (hr.mono (by decide)) (by rfl) T.l_read_g T.l_read_f.kp T.l_read_b .nil pass0 (pa_cons (pv 2) (pa_cons (pv 3) (pa_cons (pv 4) pa_nil)))) pa_nil)) pe_int (nomark _)) pa_nil)) (nomark _))))


end
section
variable {w : World} {K : PySem.W.Frag} {mg : Str → Option Value} {base : Heap}
local macro_rules | `(tactic| walk_at "hc") => `(tactic| first
  | assumption
  | ((refine CodeAt.same (H := ?xH) ?xb ?xa); (case xa => assumption); (case xb => walk_at "hc")))
local macro_rules | `(tactic| walk_at "rd0") => `(tactic| first
  | ((with_reducible refine r_get (a := ?xa) (c := ?xc) ?x1 ?x2 ?_); (case x1 => rfl); (case x2 => walk_at "hc"))
  | ((with_reducible refine r_methC (a := ?xa) (c := ?xc) ?x1 ?x2 ?x3 ?_); (case x1 => rfl); (case x2 => walk_at "hc"); (case x3 => (intro _ _ _; rfl)))
  | (with_reducible refine r_fmtB ?_)
  | (with_reducible refine r_dget ?_)
  | (with_reducible refine r_m0 ?_)
  | (with_reducible refine r_makeK ?_)
  | (with_reducible refine r_cval ?_)
  | (with_reducible refine r_sfld ?_)
  | (with_reducible refine r_isiI ?_)
  | (with_reducible refine r_isiIB ?_)
  | (with_reducible refine r_isiS ?_)
  | (with_reducible refine r_inID ?_))

local macro_rules | `(tactic| walk_at "hcr") => `(tactic| first
  | assumption
  | ((refine RulesAt.same (H := ?xH) ?xb ?xa); (case xa => assumption); (case xb => walk_at "hcr")))
local macro_rules | `(tactic| walk_at "rd0") => `(tactic| first
  | ((with_reducible refine r_getR (a := ?xa) (r := ?xr) ?x1 ?x2 ?_); (case x1 => rfl); (case x2 => walk_at "hcr")))

set_option hygiene false in
local macro_rules | `(tactic| walk_at "n1") => `(tactic| (refine And.intro (by walk_at "sz") ?_; intro p1 np1; generalize hg : upd _ p1 _ = H1; have s1 := same_of hg np1; have v1 := at_of hg; clear hg))
set_option hygiene false in
local macro_rules | `(tactic| walk_at "n2") => `(tactic| (refine And.intro (by walk_at "sz") ?_; intro p2 np2; generalize hg : upd _ p2 _ = H2; have s2 := same_of hg np2; have v2 := at_of hg; clear hg))
set_option hygiene false in
local macro_rules | `(tactic| walk_at "n3") => `(tactic| (refine And.intro (by walk_at "sz") ?_; intro p3 np3; generalize hg : upd _ p3 _ = H3; have s3 := same_of hg np3; have v3 := at_of hg; clear hg))
set_option hygiene false in
local macro_rules | `(tactic| walk_at "n4") => `(tactic| (refine And.intro (by walk_at "sz") ?_; intro p4 np4; generalize hg : upd _ p4 _ = H4; have s4 := same_of hg np4; have v4 := at_of hg; clear hg))

theorem code_sameB {T : Txt K mg} {H H' : Hp} {r b : Addr} {c : CodeD} {n : Nat} (h : CodeAt T H r c) (hb : BagAt H b n) (sb : SameB b H H') : CodeAt T H' r c := by
  obtain ⟨o, dx, tp, dg, kvs, h1, h2, h3, h4⟩ := h
  obtain ⟨dB, mB, cB, BB, eB⟩ := hb
  exact ⟨o, dx, tp, dg, kvs, sb _ _ (ne_ob h1 eB fun z => nomatch z) h1, sb _ _ (ne_ob h2 eB fun z => nomatch z) h2, sb _ _ (ne_ob h3 eB fun z => nomatch z) h3, h4⟩
theorem rules_sameB {T : Txt K mg} {H H' : Hp} {r b : Addr} {c : RD} {n : Nat} (h : RulesAt T H r c) (hb : BagAt H b n) (sb : SameB b H H') : RulesAt T H' r c := by
  obtain ⟨o, dx, D, h1, h2⟩ := h
  obtain ⟨dB, mB, cB, BB, eB⟩ := hb
  exact ⟨o, dx, D, sb _ _ (ne_ob h1 eB fun z => nomatch z) h1, sb _ _ (ne_ob h2 eB fun z => nomatch z) h2⟩
theorem tab_tx : Str.ofString "\t" = tx [9] := rfl
theorem odd_app {H : Hp} {l : List Nat} (h : Chs l) (hl : l.length < 12000) : Odd H (.str (tx (l ++ [9]))) (l.length : Nat) := by
  refine .inl ⟨_, l.length, rfl, by rw [List.length_append]; show _ + 1 ≤ 12000; omega, ⟨9, ?_, by decide, fun j y hj hy => ?_⟩, rfl⟩
  · rw [List.getElem?_append_right (Nat.le_refl _), Nat.sub_self]
    rfl
  · rw [List.getElem?_append_left hj] at hy
    exact h y (List.mem_of_getElem? hy)
def dB (xs : List Bool) : PyData := .list (xs.map PyData.bool)
theorem dpAll_bls {K : PySem.W.Frag} {H : Hp} : ∀ xs : List Bool, DpAll K H (xs.map V.bl) (xs.map PyData.bool)
  | [] => .nil
  | x :: xs => .cons (.bl x) (dpAll_bls xs)
theorem shaped_f10 : SeqAt.shaped (dB (List.replicate 10 false)) = true := by
  unfold SeqAt.shaped dB
  simp [PyData.canLay0, PyData.canLayAll0, PyData.depth, PyData.depthAll, List.replicate]
theorem eqv_f10 : PyData.eqv (dB (List.replicate 10 false)) (dB (List.replicate 10 false)) = true := by
  unfold dB
  simp [PyData.eqv, PyData.eqvAll, List.replicate]
theorem rep_big (n : Nat) : strRep (tx [65]) n = tx (List.replicate n 65) := by
  unfold strRep
  rw [tx_list]
  have : ∀ n : Nat, (List.replicate n [65]).flatten = List.replicate n 65 := by
    intro n
    induction n with
    | zero => rfl
    | succ n ih => rw [List.replicate_succ, List.flatten_cons, ih, List.replicate_succ]; rfl
  rw [this]
  rfl
def sp_law (T : Txt K mg) : Sp := fun vs H Q _ => ∃ (a : Addr) (ns : List Int), vs = [.ref a] ∧ SqL K H a (ns.map V.int) ∧ ns.length ≤ 63 ∧ ∀ H', Q (.bl true) H'
theorem len_law (T : Txt K mg) (vs : List V) (H : Hp) (Q : VK) (E : XK) (h : sp_law T vs H Q E) : vs.length = 1 := by
  obtain ⟨_, _, rfl, _⟩ := h
  rfl
def t_law (T : Txt K mg) : TS := (tSeq (tFor (iRng1 (tCons (tCB rMax2 (tCons (tC (.int 2)) (tCons (tCB rMin2 (tCons (tC (.int 6)) (tCons (tCB (rLenU K) (tCons (tVar 0) tNil)) tNil))) tNil))) tNil)) (gName 1) (tSeq (tAsg (tCall (sp_l_bag T) [] E0 (tCons (tVar 0) (tCons (tVar 1) tNil))) (gName 2))
    (tFor (iRng1 (tCons (tC (.int 8)) tNil)) (gName 3) (tSeq (tPar 4 5 (tCons (tCall (sp_l_code T) [] E0 (tCons (tVar 2) tNil)) (tCons (tCall (sp_l_data T) [] E0 (tCons (tVar 2) (tCons (tC (.int 8)) tNil))) tNil)))
    (tSeq (tAsg (tTup (tCons (tCall (sp_l_ruled T) [] E0 (tCons (tVar 2) (tCons (tVar 4) tNil))) (tCons (tCall (sp_l_made T) [] E0 (tCons (tVar 4) tNil)) tNil))) (gTup K 2 (gCons (gName 6) (gCons (gName 7) gNil))))
    (tSeq (tAsg (tTup (tCons (tCall (sp_l_made_rules T) [] E0 (tCons (tVar 6) tNil)) (tCons (tCall (sp_l_right_text T) [] E0 (tCons (tVar 2) (tCons (tVar 4) (tCons (tVar 6) (tCons (tVar 5) tNil))))) tNil))) (gTup K 2 (gCons (gName 8) (gCons (gName 9) gNil))))
    (tSeq (tFor (iRng1 (tCons (tC (.int 4)) tNil)) (gName 10) (tSeq (tIfS (tNot (tB (tCall (sp_l_right T) [] E0 (tCons (tVar 7) (tCons (tVar 8) (tCons (tVar 4) (tCons (tVar 6) (tCons (tVar 9) tNil)))))))) (tRet (tC (.bl false))) tNext)
    (tAsg (tCall (sp_l_bent T) [] E0 (tCons (tVar 2) (tCons (tVar 4) (tCons (tVar 6) (tCons (tVar 9) tNil))))) (gName 9))))
    (tSeq (tAsg (tLst (tCons (tC .non) (tCons (tC (.int 7)) (tCons (tC (.bl true)) (tCons (tCB rListTx (tCons (tVar 9) tNil)) (tCons (tTup (tCons (tVar 9) tNil)) (tCons (tOp (rAddU K) (tVar 9) (tC (.str (Str.ofString "	")))) (tCons (tC (.str (Str.ofString "	"))) (tCons (tVar 5) (tCons (tLst tNil) (tCons (tOp rMulW (tC (.str (Str.ofString "A"))) (tC (.int 12001))) tNil))))))))))) (gName 11))
    (tIfS (tTest (tOp (rNeU K) (tLc (iSeqU K (tVar 11)) (gName 12) tYes (tCall (sp_is_right T) [] E0 (tCons (tVar 7) (tCons (tVar 12) (tCons (tVar 8) tNil)))) [12]) (tOp (rMulU K) (tLst (tCons (tC (.bl false)) tNil)) (tC (.int 10))))) (tRet (tC (.bl false))) tNext)))))))))
    (tRet (tC (.bl true))))

theorem pure_law (T : Txt K mg) (vs : List V) (H : Hp) (Q : VK) (E : XK) (h : sp_law T vs H Q E) : t_law T { nx := fun _ H' => Q .non H', rt := Q } (start ["_law_script", "_law_at", "_law_bag_here", "_law_turn", "_law_code_here", "_law_some", "_law_ruled_here", "_law_real", "_law_own", "_law_text", "_law_more", "_law_odd", "_law_one"] vs) H := by
  obtain ⟨a0, ns, rfl, hS, hn, q⟩ := h
  unfold t_law
  walk_at "rd"
  generalize hc : (if (if ((List.map V.int ns).length : Int) < 6 then ((List.map V.int ns).length : Int) else 6) > 2 then (if ((List.map V.int ns).length : Int) < 6 then ((List.map V.int ns).length : Int) else 6) else 2) = cnt
  obtain ⟨cn, rfl, hcn⟩ : ∃ m : Nat, cnt = m ∧ m ≤ 6 := by
    refine ⟨cnt.toNat, ?_, ?_⟩
    · rw [← hc]; split <;> split <;> omega
    · rw [← hc]; split <;> split <;> omega
  refine r_one ⟨by omega, by omega⟩ ?_
  refine f_it (walk_range (lo := 0) (n := cn)) (fun i σ G => ∃ v1 v2 v3 v4 v5 v6 v7 v8 v9 v10 v11 v12, σ = [some (.ref a0), v1, v2, v3, v4, v5, v6, v7, v8, v9, v10, v11, v12] ∧ Same H G)
    ⟨_, _, _, _, _, _, _, _, _, _, _, _, rfl, Same.refl H⟩ (fun _ _ _ _ _ => trivial) ?_ ?_
  rotate_left
  · rintro σ G ⟨v1, v2, v3, v4, v5, v6, v7, v8, v9, v10, v11, v12, rfl, s⟩
    walk_at "rd"
    exact q G
  rintro i x σ G G' hi ⟨v1, v2, v3, v4, v5, v6, v7, v8, v9, v10, v11, v12, rfl, s⟩ ⟨rfl, rfl⟩
  walk_at "rd"
  refine ⟨a0, ns, i, by simp, s.seq hS, hn, by omega, fun b H1 s1 nb hb1 => ?_⟩
  walk_at "rd"
  refine r_one ⟨by decide, by decide⟩ ?_
  refine f_it (walk_range (lo := 0) (n := (8 : Int).toNat)) (fun j σ G => ∃ v3 v4 v5 v6 v7 v8 v9 v10 v11 v12, σ = [some (.ref a0), some (.int (0 + (i : Int))), some (.ref b), v3, v4, v5, v6, v7, v8, v9, v10, v11, v12] ∧ Same G' G ∧ BagAt G b (1000000 - 3640 * j))
    ⟨_, _, _, _, _, _, _, _, _, _, rfl, s1, hb1⟩ (fun _ _ _ _ _ => trivial) ?_ ?_
  rotate_left
  · rintro σ G5 ⟨v3, v4, v5, v6, v7, v8, v9, v10, v11, v12, rfl, sG, hb5⟩
    exact ⟨_, _, _, _, _, _, _, _, _, _, _, _, rfl, s.trans sG⟩
  rintro j x σ G5 G6 hj ⟨v3, v4, v5, v6, v7, v8, v9, v10, v11, v12, rfl, sG, hb5⟩ ⟨rfl, rfl⟩
  have hj8 : j < 8 := hj
  walk_at "rd"
  refine ⟨b, 999990 - 3640 * j, rfl, hb5.mono (by omega), fun p z dd w H2 sb2 hb2 np hp hdr => ?_⟩
  obtain ⟨c, ec, nw⟩ : ∃ c : CodeD, TupC H2 p c ∧ c.New := by
    obtain ⟨m, hm1, hm6, hzl⟩ := hdr.1.ex
    exact ⟨⟨z, dd, w, m⟩, hp, ⟨hm1, hm6, hzl, hdr.1.sz, hdr.1.sp, hdr.1.pl, hdr.2⟩, hdr.1.nd, hdr.1.dj⟩
  have pb : p ≠ b := hb5.ne np
  walk_at "rd"
  refine ⟨b, 8, 998990 - 3640 * j, rfl, hb2.mono (by omega), by decide, fun d xs H3 hx hl nd hd sb3 hb3 => ?_⟩
  refine ⟨_, _, rfl, ?_⟩
  have db : d ≠ b := hb2.ne nd
  have hp3 : TupC H3 p c := sb3 _ _ pb ec
  walk_at "rd"
  refine ⟨b, p, 998978 - 3640 * j, c, rfl, hb3.mono (by omega), hp3, nw, fun q' r H4 sb4 hb4 nq hq ro hsu => ?_⟩
  have qb : q' ≠ b := hb3.ne nq
  have hp4 : TupC H4 p c := sb4 _ _ pb hp3
  have hd4 := sb4 _ _ db hd
  walk_at "rd"
  refine ⟨p, c, rfl, hp4, nw, fun u H5 s5 nu hu => ?_⟩
  walk_at "rd"
  refine And.intro (by show 2 ≤ sizeLine; decide) fun t1 nt1 => ?_
  generalize hgx : upd H5 t1 _ = H6
  have s6 := same_of hgx nt1
  have v6 := at_of hgx
  clear hgx
  refine r_gtup (qt v6) rfl ?_
  have s46 := s5.trans s6
  walk_at "rd"
  refine ⟨q', r, rfl, s46 _ _ hq, ro, fun rr H7 s7 nrr hrr => ?_⟩
  have s47 := s46.trans s7
  walk_at "rd"
  refine ⟨b, p, q', d, c, r, xs, 996378 - 3640 * j, rfl, (hb4.same s47).mono (by omega), s47 _ _ hp4, nw, s47 _ _ hq, ro, pb, qb, db, s47 _ _ hd4, by omega, hx, fun l H8 sb8 hb8 chl ll => ?_⟩
  have hu8 := code_sameB ((hu.same s6).same s7) (hb4.same s47) sb8
  have hrr8 := rules_sameB hrr (hb4.same s47) sb8
  have hp8 : TupC H8 p c := sb8 _ _ pb (s47 _ _ hp4)
  have hq8 : RTup H8 q' r := sb8 _ _ qb (s47 _ _ hq)
  have hd8 := sb8 _ _ db (s47 _ _ hd4)
  have S8 : Same G' H8 := same_mutB nb sG (sb2.trans (sb3.trans (sb4.trans ((toB s47).trans sb8))))
  walk_at "rd"
  refine And.intro (by show 2 ≤ sizeLine; decide) fun t2 nt2 => ?_
  generalize hgx : upd H8 t2 _ = H9
  have s9 := same_of hgx nt2
  have v9 := at_of hgx
  clear hgx
  refine r_gtup (qt v9) rfl ?_
  walk_at "rd"
  refine r_one ⟨by decide, by decide⟩ ?_
  refine f_it (walk_range (lo := 0) (n := (4 : Int).toNat)) (fun k σ G => ∃ v10 v11 v12, ∃ l : List Nat, σ = [some (.ref a0), some (.int (0 + (i : Int))), some (.ref b), some (.int (0 + (j : Int))), some (.ref p), some (.ref d), some (.ref q'), some (.ref u), some (.ref rr), some (.str (tx l)), v10, v11, v12] ∧ Same G' G ∧ CodeAt T G u c ∧ RulesAt T G rr r ∧ TupC G p c ∧ RTup G q' r ∧ G d = some (.lst (xs.map V.int)) ∧ BagAt G b (996378 - 3640 * j - 4 * k) ∧ Chs l ∧ l.length ≤ 2000 + k)
    ⟨_, _, _, l, rfl, S8.trans s9, hu8.same s9, hrr8.same s9, s9 _ _ hp8, s9 _ _ hq8, s9 _ _ hd8, hb8.same s9, chl, ll⟩ (fun _ _ _ _ _ => trivial) ?_ ?_
  · rintro k x σ G7 G8 hk ⟨v10, v11, v12, l, rfl, S9, hu9, hrr9, hp9, hq9, hd9, hb9, chl, ll⟩ ⟨rfl, rfl⟩
    have hk4 : k < 4 := hk
    walk_at "rd"
    refine ⟨u, rr, p, q', c, r, l, rfl, hu9, hrr9, hp9, nw, hq9, ro, hsu, by omega, chl, fun HA sA => ?_⟩
    walk_at "rd"
    refine ⟨b, p, q', c, r, l, 996374 - 3640 * j - 4 * k, rfl, (hb9.same sA).mono (by omega), sA _ _ hp9, nw, sA _ _ hq9, ro, pb, qb, chl, by omega, fun l' HB sbB hbB chB lB => ?_⟩
    have hbA := hb9.same sA
    walk_at "rd"
    exact ⟨_, _, _, l', rfl, same_mutB nb (S9.trans sA) sbB, code_sameB (hu9.same sA) hbA sbB, rules_sameB (hrr9.same sA) hbA sbB, sbB _ _ pb (sA _ _ hp9), sbB _ _ qb (sA _ _ hq9), sbB _ _ db (sA _ _ hd9), hbB.mono (by omega), chB, by omega⟩
  rintro σ G7 ⟨v10, v11, v12, l, rfl, S9, hu9, hrr9, hp9, hq9, hd9, hb9, chl, ll⟩
  have ll : l.length ≤ 2004 := ll
  walk_at "rd"
  refine r_listTx (smallS (by rw [tx_len]; omega)) fun L1 nL1 => ?_
  rw [cells_tx]
  generalize hgx : upd _ L1 _ = HA
  have sA := same_of hgx nL1
  have vA := at_of hgx
  clear hgx
  walk_at "rd"
  refine And.intro (by show 1 ≤ sizeLine; decide) fun L2 nL2 => ?_
  generalize hgx : upd _ L2 _ = HB
  have sB := same_of hgx nL2
  have vB := at_of hgx
  clear hgx
  walk_at "rd"
  refine r_addUS (smallS (by rw [tx_len, tab_tx, tx_len]; show _ + 1 ≤ _; omega)) ?_
  rw [tab_tx, tx_app]
  walk_at "rd"
  refine And.intro (Nat.zero_le _) fun L3 nL3 => ?_
  generalize hgx : upd _ L3 _ = HC
  have sC := same_of hgx nL3
  have vC := at_of hgx
  clear hgx
  walk_at "rd"
  refine ⟨tx [65], 12001, rfl, rfl, by decide, by decide, by rw [sizeLine_eq]; decide, ?_⟩
  rw [rep_big]
  have l12 : (List.replicate 12001 65).length = 12001 := List.length_replicate
  generalize List.replicate 12001 65 = big at l12
  walk_at "rd"
  refine And.intro (by show 10 ≤ sizeLine; decide) fun L4 nL4 => ?_
  generalize hgx : upd _ L4 _ = HD
  have sD := same_of hgx nL4
  have vD := at_of hgx
  clear hgx
  have sCD := sC.trans sD
  have sAD := sA.trans (sB.trans sCD)
  have wA := sCD _ _ (sB _ _ vA)
  have wB := sCD _ _ vB
  have wC := sD _ _ vC
  have wd := sAD _ _ hd9
  walk_at "rd"
  refine r_iseqL ?_
  walk_at "rd"
  refine ⟨L4, rfl, ⟨_, ql vD⟩, fun D nD => ?_⟩
  refine c_it (walk_list (K := K) (a := L4) (xs := _)) (fun k G => G D = some (.lst ((List.replicate k false).map V.bl)) ∧ Same HD G) ⟨upd_same, same_new nD⟩ (fun k G _ h => ql (h.2 _ _ vD)) ?_ ?_
  · rintro k x G G2 hk ⟨hD, sG2⟩ ⟨rfl, hx'⟩
    have hk10 : k < 10 := hk
    have odd : ∃ io, Odd G2 x io := by
      match k, hx' with
      | 0, e => rw [← Option.some.inj e]; exact ⟨_, .inr (.inr ⟨_, .non, by decide, rfl⟩)⟩
      | 1, e => rw [← Option.some.inj e]; exact ⟨_, .inr (.inr ⟨_, .int _, by decide, rfl⟩)⟩
      | 2, e => rw [← Option.some.inj e]; exact ⟨_, .inr (.inr ⟨_, .bl _, by decide, rfl⟩)⟩
      | 3, e => rw [← Option.some.inj e]; exact ⟨_, .inr (.inr ⟨_, .lst (sG2 _ _ wA), by decide, rfl⟩)⟩
      | 4, e => rw [← Option.some.inj e]; exact ⟨_, .inr (.inr ⟨_, .tup (sG2 _ _ wB), by decide, rfl⟩)⟩
      | 5, e => rw [← Option.some.inj e]; exact ⟨_, odd_app chl (by omega)⟩
      | 6, e => rw [← Option.some.inj e]; exact ⟨_, odd_app (l := []) (fun x h => nomatch h) (by decide)⟩
      | 7, e => rw [← Option.some.inj e]; exact ⟨_, .inr (.inr ⟨_, .lst (sG2 _ _ wd), by decide, rfl⟩)⟩
      | 8, e => rw [← Option.some.inj e]; exact ⟨_, .inr (.inr ⟨_, .lst (sG2 _ _ wC), by decide, rfl⟩)⟩
      | 9, e => rw [← Option.some.inj e]; exact ⟨_, .inr (.inl ⟨big, rfl, by omega, by omega, rfl⟩)⟩
      | k + 10, e => cases e
    obtain ⟨io, odd⟩ := odd
    have s2' := sAD.trans sG2
    walk_at "rd"
    refine ⟨rfl, ?_⟩
    walk_at "rd"
    refine ⟨u, _, rr, c, r, rfl, hu9.same s2', hrr9.same s2', hsu, .inr ⟨io, odd, fun H3 s3 => ?_⟩⟩
    refine ⟨_, s3 _ _ hD, ?_, ?_, same_mut (sG2.trans s3) nD⟩
    · rw [List.length_map, List.length_replicate]
      exact Nat.lt_of_le_of_lt (show k ≤ 100 by omega) (by rw [sizeLine_eq]; decide)
    · rw [upd_same, List.replicate_succ', List.map_append]
      rfl
  rintro G8 ⟨hD, sG8⟩
  walk_at "rd"
  refine And.intro (by show 1 ≤ sizeLine; decide) fun L5 nL5 => ?_
  generalize hgx : upd _ L5 _ = HE
  have sE := same_of hgx nL5
  have vE := at_of hgx
  clear hgx
  walk_at "rd"
  refine r_mulUL vE ⟨by decide, by decide⟩ (smallS (by decide)) fun L6 nL6 => ?_
  generalize hgx : upd _ L6 _ = HF
  have sF := same_of hgx nL6
  have vF := at_of hgx
  clear hgx
  refine r_neUD (d := dB (List.replicate 10 false)) (e := dB (List.replicate 10 false)) (.lst (ql (sF _ _ (sE _ _ hD))) (dpAll_bls _)) (.lst (ql vF) (dpAll_bls (List.replicate 10 false))) shaped_f10 shaped_f10 ?_
  rw [eqv_f10]
  walk_at "rd"
  exact ⟨_, _, _, _, _, _, _, _, _, _, rfl, S9.trans (sAD.trans (sG8.trans (sE.trans sF))), (hb9.same (sAD.trans (sG8.trans (sE.trans sF)))).mono (by have : (4 : Int).toNat = 4 := rfl; omega)⟩
theorem ok_law (T : Txt K mg) : FnG P w K mg base CX0 9 T.law_a T.law_d ["_law_script"] (sp_law T) := by
  refine fnG_ok T.law_f sc_law (fun vs H Q E h => len_law T vs H Q E h) (fun cdv A outer s H vs Q E hG hr h => ⟨t_law T, PSs.nox ?_, pure_law T vs H Q E h⟩)
  have hu := hu64 hr
  exact (pss_cons (ps_for PassesOwn.never rfl (pi_range1 (by rfl) T.n_range (pa_cons (pe_callB (call_max2 rfl) (by rfl) T.n_max (by decide +kernel) (pa_cons pe_int (pa_cons (pe_callB (call_min2 rfl) (by rfl) T.n_min (by decide +kernel) (pa_cons pe_int (pa_cons (pe_callB c_lenU (by rfl) T.n_len (by decide +kernel) (pa_cons (pv 0) pa_nil)) pa_nil))) pa_nil))) pa_nil)) (pg_name (i := 1) sc_law.nd rfl (.inl rfl)) (pss_cons (ps_set (i := 2) sc_law.nd rfl (.inl rfl) (pe_call (ok_l_bag T) (hr.mono (by decide)) (by rfl) T.l_bag_g T.l_bag_f.kp T.l_bag_b .nil pass0 (pa_cons (pv 0) (pa_cons (pv 1) pa_nil))))
      (pss_one (ps_for PassesOwn.never rfl (pi_range1 (by rfl) T.n_range (pa_cons pe_int pa_nil)) (pg_name (i := 3) sc_law.nd rfl (.inl rfl)) (pss_cons (ps_par (i := 4) (j := 5) (by rfl) sc_law.nd rfl rfl (by decide) rfl rfl (pa_cons (pe_call (ok_l_code T) (hr.mono (by decide)) (by rfl) T.l_code_g T.l_code_f.kp T.l_code_b .nil pass0 (pa_cons (pv 2) pa_nil)) (pa_cons (pe_call (ok_l_data T) (hr.mono (by decide)) (by rfl) T.l_data_g T.l_data_f.kp T.l_data_b .nil pass0 (pa_cons (pv 2) (pa_cons pe_int pa_nil))) pa_nil)) (by rfl))
      (pss_cons (ps_asg (pe_tup (pa_cons (pe_call (ok_l_ruled T) (hr.mono (by decide)) (by rfl) T.l_ruled_g T.l_ruled_f.kp T.l_ruled_b .nil pass0 (pa_cons (pv 2) (pa_cons (pv 4) pa_nil))) (pa_cons (pe_call (ok_l_made T) (hr.mono (by decide)) (by rfl) T.l_made_g T.l_made_f.kp T.l_made_b .nil pass0 (pa_cons (pv 4) pa_nil)) pa_nil))) (pg_tup (by rfl) (pgs_cons (pg_name (i := 6) sc_law.nd rfl (.inl rfl)) (pgs_cons (pg_name (i := 7) sc_law.nd rfl (.inr rfl)) pgs_nil))))
      (pss_cons (ps_asg (pe_tup (pa_cons (pe_call (ok_l_made_rules T) (hr.mono (by decide)) (by rfl) T.l_made_rules_g T.l_made_rules_f.kp T.l_made_rules_b .nil pass0 (pa_cons (pv 6) pa_nil)) (pa_cons (pe_call (ok_l_right_text T) (hr.mono (by decide)) (by rfl) T.l_right_text_g T.l_right_text_f.kp T.l_right_text_b .nil pass0 (pa_cons (pv 2) (pa_cons (pv 4) (pa_cons (pv 6) (pa_cons (pv 5) pa_nil))))) pa_nil))) (pg_tup (by rfl) (pgs_cons (pg_name (i := 8) sc_law.nd rfl (.inr rfl)) (pgs_cons (pg_name (i := 9) sc_law.nd rfl (.inl rfl)) pgs_nil))))
      (pss_cons (ps_for PassesOwn.never rfl (pi_range1 (by rfl) T.n_range (pa_cons pe_int pa_nil)) (pg_name (i := 10) sc_law.nd rfl (.inl rfl)) (pss_cons (ps_if (pt_not (pt_val (pe_callG (ok_l_right T) hG (hr.mono (by decide)) (by rfl) T.l_right_g T.l_right_f.kp T.l_right_b .nil pass0 (pa_cons (pv 7) (pa_cons (pv 8) (pa_cons (pv 4) (pa_cons (pv 6) (pa_cons (pv 9) pa_nil)))))))) (pss_one (ps_ret pe_bl)) pss_nil)
      (pss_one (ps_set (i := 9) sc_law.nd rfl (.inl rfl) (pe_call (ok_l_bent T) (hr.mono (by decide)) (by rfl) T.l_bent_g T.l_bent_f.kp T.l_bent_b .nil pass0 (pa_cons (pv 2) (pa_cons (pv 4) (pa_cons (pv 6) (pa_cons (pv 9) pa_nil)))))))))
      (pss_cons (ps_set (i := 11) sc_law.nd rfl (.inl rfl) (pe_lst (pa_cons pe_non (pa_cons pe_int (pa_cons pe_bl (pa_cons (pe_callTy (call_listS rfl) (by rfl) T.n_list (by decide +kernel) (pa_cons (pv 9) pa_nil)) (pa_cons (pe_tup (pa_cons (pv 9) pa_nil)) (pa_cons (pe_op op_addU (pv 9) pe_str) (pa_cons pe_str (pa_cons (pv 5) (pa_cons (pe_lst pa_nil) (pa_cons (pe_op op_mulW pe_str pe_int) pa_nil))))))))))))
      (pss_one (ps_if (pt_cmpR (op_neU hu) (pe_lc (own := [("_law_one", 12)]) (g := (gName 12)) (tt := tYes) rfl sc_law.nd (pi_seqU (pv 11)) (blkOk_by (own := [("_law_one", 12)]) (N := ["_law_script", "_law_at", "_law_bag_here", "_law_turn", "_law_code_here", "_law_some", "_law_ruled_here", "_law_real", "_law_own", "_law_text", "_law_more", "_law_odd", "_law_one"]) (sc := defScope s_law) (by decide +kernel)) (fun _ _ _ _ _ => (pg_name (i := 12) sc_law.nd rfl (.inl rfl))) (fun _ _ _ _ _ => pts_nil) (fun _ _ _ _ _ => (pe_call (ok_is_right T) (hr.mono (by decide)) (by rfl) T.is_right_g T.is_right_f.kp T.is_right_b .nil pass0 (pa_cons (pv 7) (pa_cons (pv 12) (pa_cons (pv 8) pa_nil)))))) (pe_op op_mulU (pe_lst (pa_cons pe_bl pa_nil)) pe_int) (nomark _)) (pss_one (ps_ret pe_bl)) pss_nil)))))))))))
      (pss_one (ps_ret pe_bl)))


end
section
variable {w : World} {K : PySem.W.Frag} {mg : Str → Option Value} {base : Heap}
theorem kb_Rules___init___ {fd : FuncData} {a : Addr} (F : FunD K "__init__" "Rules.__init__" (defArgs s_Rules___init__) (defBody s_Rules___init__) (defScope s_Rules___init__) [] [("pads", .str (Str.ofString "full")), ("skip", .str (Str.ofString "")), ("lines", .bl true), ("loose", .bl false), ("fold", .bl false)] a fd) :
    ∃ g, KBn K fd ["self", "pads", "skip", "lines", "loose", "fold"] 1 [] g (fun vs zs => vs ++ (zs ++ [.str (Str.ofString "full"), .str (Str.ofString ""), .bl true, .bl false, .bl false])) := by
  obtain ⟨mv, h⟩ := FunD.kbinds0 (ps := ["self", "pads", "skip", "lines", "loose", "fold"]) F 1 [] [("pads", .str (Str.ofString "full")), ("skip", .str (Str.ofString "")), ("lines", .bl true), ("loose", .bl false), ("fold", .bl false)] (fun a m z => a ++ (z ++ m)) (by simp) (by simp) (fun r1 r2 r3 => r1.append (r3.append r2))
    (fun D doc pm an cdv ct us mv ws l1 l2 l3 => match us, mv, ws, l1, l2, l3 with | [_], [_, _, _, _, _], [], _, _, _ => ⟨_, _, _, _, _, _, rfl, rfl, ⟨_, _, _, _, _, _, rfl, rfl, ⟨_, _, _, _, _, _, rfl, rfl, ⟨_, _, _, _, _, _, rfl, rfl, ⟨_, _, _, _, _, _, rfl, rfl, rfl⟩⟩⟩⟩⟩)
  exact ⟨_, h⟩
theorem kb_Code___init___pad_width {fd : FuncData} {a : Addr} (F : FunD K "__init__" "Code.__init__" (defArgs s_Code___init__) (defBody s_Code___init__) (defScope s_Code___init__) [] [("pad", .str (Str.ofString "")), ("width", .int 0)] a fd) :
    ∃ g, KBn K fd ["self", "signs", "pad", "width"] 2 ["pad", "width"] g (fun vs zs => vs ++ zs) := by
  obtain ⟨mv, h⟩ := FunD.kbinds0 (ps := ["self", "signs", "pad", "width"]) F 2 ["pad", "width"] [] (fun a m z => a ++ z) (by simp) (by simp) (fun r1 r2 r3 => r1.append r3)
    (fun D doc pm an cdv ct us mv ws l1 l2 l3 => match us, mv, ws, l1, l2, l3 with | [_, _], [], [_, _], _, _, _ => rfl)
  exact ⟨_, h⟩
theorem kb_Rules___init___pads_skip_lines_loose_fold {fd : FuncData} {a : Addr} (F : FunD K "__init__" "Rules.__init__" (defArgs s_Rules___init__) (defBody s_Rules___init__) (defScope s_Rules___init__) [] [("pads", .str (Str.ofString "full")), ("skip", .str (Str.ofString "")), ("lines", .bl true), ("loose", .bl false), ("fold", .bl false)] a fd) :
    ∃ g, KBn K fd ["self", "pads", "skip", "lines", "loose", "fold"] 1 ["pads", "skip", "lines", "loose", "fold"] g (fun vs zs => vs ++ zs) := by
  obtain ⟨mv, h⟩ := FunD.kbinds0 (ps := ["self", "pads", "skip", "lines", "loose", "fold"]) F 1 ["pads", "skip", "lines", "loose", "fold"] [] (fun a m z => a ++ z) (by simp) (by simp) (fun r1 r2 r3 => r1.append r3)
    (fun D doc pm an cdv ct us mv ws l1 l2 l3 => match us, mv, ws, l1, l2, l3 with | [_], [], [_, _, _, _, _], _, _, _ => rfl)
  exact ⟨_, h⟩

theorem htxt {K : PySem.W.Frag} {h : Heap} {mg : Str → Option Value} {f : Addr} (X : K.In h) (G : h.Ns mainGlobals mg) (hfa : mg ("law" : Str) = some (.ref f)) (c : SaysN hfacts hdefs herrs K) :
    ∃ T : Txt K mg, T.law_a = f ∧ ∀ (s : Shared) (v : Value), BindsTo s T.law_d ⟨[v], []⟩ [("_law_script", v)] := by
  obtain ⟨fd_is_integer, F_is_integer⟩ := c.def_ 0 (d := d_is_integer) rfl
  obtain ⟨fd_is_within, F_is_within⟩ := c.def_ 1 (d := d_is_within) rfl
  obtain ⟨fd_is_sign, F_is_sign⟩ := c.def_ 2 (d := d_is_sign) rfl
  obtain ⟨fd_are_signs, F_are_signs⟩ := c.def_ 3 (d := d_are_signs) rfl
  obtain ⟨fd_are_characters, F_are_characters⟩ := c.def_ 4 (d := d_are_characters) rfl
  obtain ⟨fd_check_text, F_check_text⟩ := c.def_ 5 (d := d_check_text) rfl
  obtain ⟨fd_other_case, F_other_case⟩ := c.def_ 6 (d := d_other_case) rfl
  obtain ⟨fd_is_option, F_is_option⟩ := c.def_ 7 (d := d_is_option) rfl
  obtain ⟨fd_Rules___init__, F_Rules___init__⟩ := c.def_ 8 (d := d_Rules___init__) rfl
  obtain ⟨fd_Rules_pads, F_Rules_pads⟩ := c.def_ 9 (d := d_Rules_pads) rfl
  obtain ⟨fd_Rules_skip, F_Rules_skip⟩ := c.def_ 10 (d := d_Rules_skip) rfl
  obtain ⟨fd_Rules_lines, F_Rules_lines⟩ := c.def_ 11 (d := d_Rules_lines) rfl
  obtain ⟨fd_Rules_loose, F_Rules_loose⟩ := c.def_ 12 (d := d_Rules_loose) rfl
  obtain ⟨fd_Rules_fold, F_Rules_fold⟩ := c.def_ 13 (d := d_Rules_fold) rfl
  obtain ⟨fd_Code_signs, F_Code_signs⟩ := c.def_ 14 (d := d_Code_signs) rfl
  obtain ⟨fd_Code_pad, F_Code_pad⟩ := c.def_ 15 (d := d_Code_pad) rfl
  obtain ⟨fd_Code_width, F_Code_width⟩ := c.def_ 16 (d := d_Code_width) rfl
  obtain ⟨fd_Code_bits, F_Code_bits⟩ := c.def_ 17 (d := d_Code_bits) rfl
  obtain ⟨fd_Code_group, F_Code_group⟩ := c.def_ 18 (d := d_Code_group) rfl
  obtain ⟨fd_Code___contains__, F_Code___contains__⟩ := c.def_ 19 (d := d_Code___contains__) rfl
  obtain ⟨fd_Code___init__, F_Code___init__⟩ := c.def_ 20 (d := d_Code___init__) rfl
  obtain ⟨fd_Code_has_rows, F_Code_has_rows⟩ := c.def_ 21 (d := d_Code_has_rows) rfl
  obtain ⟨fd_Code_is_foreign, F_Code_is_foreign⟩ := c.def_ 22 (d := d_Code_is_foreign) rfl
  obtain ⟨fd_Code_suits, F_Code_suits⟩ := c.def_ 23 (d := d_Code_suits) rfl
  obtain ⟨fd_Code_is_full, F_Code_is_full⟩ := c.def_ 24 (d := d_Code_is_full) rfl
  obtain ⟨fd_Code_next_column, F_Code_next_column⟩ := c.def_ 25 (d := d_Code_next_column) rfl
  obtain ⟨fd_Code_read_digit, F_Code_read_digit⟩ := c.def_ 26 (d := d_Code_read_digit) rfl
  obtain ⟨fd_Code_opening, F_Code_opening⟩ := c.def_ 27 (d := d_Code_opening) rfl
  obtain ⟨fd_Code_is_whole, F_Code_is_whole⟩ := c.def_ 28 (d := d_Code_is_whole) rfl
  obtain ⟨fd_Code_missing_pads, F_Code_missing_pads⟩ := c.def_ 29 (d := d_Code_missing_pads) rfl
  obtain ⟨fd_Code_may_pad, F_Code_may_pad⟩ := c.def_ 30 (d := d_Code_may_pad) rfl
  obtain ⟨fd_Code_may_end, F_Code_may_end⟩ := c.def_ 31 (d := d_Code_may_end) rfl
  obtain ⟨fd_Code_take, F_Code_take⟩ := c.def_ 32 (d := d_Code_take) rfl
  obtain ⟨fd_Machine_whole_data, F_Machine_whole_data⟩ := c.def_ 33 (d := d_Machine_whole_data) rfl
  obtain ⟨fd_Rules_suit, F_Rules_suit⟩ := c.def_ 34 (d := d_Rules_suit) rfl
  obtain ⟨fd_Machine_usual, F_Machine_usual⟩ := c.def_ 35 (d := d_Machine_usual) rfl
  obtain ⟨fd_rules_for, F_rules_for⟩ := c.def_ 36 (d := d_rules_for) rfl
  obtain ⟨fd_is_right, F_is_right⟩ := c.def_ 37 (d := d_is_right) rfl
  obtain ⟨fd_l_bag, F_l_bag⟩ := c.def_ 38 (d := d_l_bag) rfl
  obtain ⟨fd_l_take, F_l_take⟩ := c.def_ 39 (d := d_l_take) rfl
  obtain ⟨fd_l_of, F_l_of⟩ := c.def_ 40 (d := d_l_of) rfl
  obtain ⟨fd_l_all_signs, F_l_all_signs⟩ := c.def_ 41 (d := d_l_all_signs) rfl
  obtain ⟨fd_l_code, F_l_code⟩ := c.def_ 42 (d := d_l_code) rfl
  obtain ⟨fd_l_made, F_l_made⟩ := c.def_ 43 (d := d_l_made) rfl
  obtain ⟨fd_l_size, F_l_size⟩ := c.def_ 44 (d := d_l_size) rfl
  obtain ⟨fd_l_group, F_l_group⟩ := c.def_ 45 (d := d_l_group) rfl
  obtain ⟨fd_l_data, F_l_data⟩ := c.def_ 46 (d := d_l_data) rfl
  obtain ⟨fd_l_bits, F_l_bits⟩ := c.def_ 47 (d := d_l_bits) rfl
  obtain ⟨fd_l_number, F_l_number⟩ := c.def_ 48 (d := d_l_number) rfl
  obtain ⟨fd_l_digits, F_l_digits⟩ := c.def_ 49 (d := d_l_digits) rfl
  obtain ⟨fd_l_rows, F_l_rows⟩ := c.def_ 50 (d := d_l_rows) rfl
  obtain ⟨fd_l_other, F_l_other⟩ := c.def_ 51 (d := d_l_other) rfl
  obtain ⟨fd_l_ruled, F_l_ruled⟩ := c.def_ 52 (d := d_l_ruled) rfl
  obtain ⟨fd_l_made_rules, F_l_made_rules⟩ := c.def_ 53 (d := d_l_made_rules) rfl
  obtain ⟨fd_l_digit, F_l_digit⟩ := c.def_ 54 (d := d_l_digit) rfl
  obtain ⟨fd_l_spelt, F_l_spelt⟩ := c.def_ 55 (d := d_l_spelt) rfl
  obtain ⟨fd_l_noisy, F_l_noisy⟩ := c.def_ 56 (d := d_l_noisy) rfl
  obtain ⟨fd_l_right_text, F_l_right_text⟩ := c.def_ 57 (d := d_l_right_text) rfl
  obtain ⟨fd_l_kind, F_l_kind⟩ := c.def_ 58 (d := d_l_kind) rfl
  obtain ⟨fd_l_is_whole, F_l_is_whole⟩ := c.def_ 59 (d := d_l_is_whole) rfl
  obtain ⟨fd_l_may_pad, F_l_may_pad⟩ := c.def_ 60 (d := d_l_may_pad) rfl
  obtain ⟨fd_l_may_end, F_l_may_end⟩ := c.def_ 61 (d := d_l_may_end) rfl
  obtain ⟨fd_l_read, F_l_read⟩ := c.def_ 62 (d := d_l_read) rfl
  obtain ⟨fd_l_bent, F_l_bent⟩ := c.def_ 63 (d := d_l_bent) rfl
  obtain ⟨fd_l_right, F_l_right⟩ := c.def_ 64 (d := d_l_right) rfl
  obtain ⟨fd_law, F_law⟩ := c.def_ 65 (d := d_law) rfl
  have XF_NoCharacter := c.err 0 (d := eN_NoCharacter) rfl
  have g_law := He.glo_ok X G (c.fact 69 (f := fFa (.glo "law")) rfl)
  have e := hfa.symm.trans g_law
  cases e
  obtain ⟨t_PRINTED, h_PRINTED⟩ := He.str_ok X G (c.fact 76 (f := fFa (.str "PRINTED" " !\"#$&'()*+,-./0123456789:;<=>?@ABCDEFGHIJKLMNOPQRSTUVWXYZ[\\]^_`abcdefghijklmnopqrstuvwxyz{|}~")) rfl)
  obtain ⟨t_CHARACTERS, h_CHARACTERS⟩ := He.str_ok X G (c.fact 77 (f := fFa (.str "CHARACTERS" "\n !\"#$&'()*+,-./0123456789:;<=>?@ABCDEFGHIJKLMNOPQRSTUVWXYZ[\\]^_`abcdefghijklmnopqrstuvwxyz{|}~")) rfl)
  obtain ⟨t_MOST_CHARACTERS, h_MOST_CHARACTERS⟩ := He.int_ok X G (c.fact 78 (f := fFa (.int "MOST_CHARACTERS" 12000)) rfl)
  obtain ⟨t_SMALLS, h_SMALLS⟩ := He.str_ok X G (c.fact 79 (f := fFa (.str "SMALLS" "abcdefghijklmnopqrstuvwxyz")) rfl)
  obtain ⟨t_CAPITALS, h_CAPITALS⟩ := He.str_ok X G (c.fact 80 (f := fFa (.str "CAPITALS" "ABCDEFGHIJKLMNOPQRSTUVWXYZ")) rfl)
  obtain ⟨t_NEWLINE, h_NEWLINE⟩ := He.str_ok X G (c.fact 89 (f := fFa (.str "NEWLINE" "\n")) rfl)
  obtain ⟨t_BYTE_BITS, h_BYTE_BITS⟩ := He.int_ok X G (c.fact 90 (f := fFa (.int "BYTE_BITS" 8)) rfl)
  refine ⟨{
    C_Rules := He.ga K "Rules"
    C_Rules_g := He.glo_ok X G (c.fact 0 (f := fFa (.glo "Rules")) rfl)
    C_Rules_c := He.cls_ok (c.fact 1 (f := fFa (.cls "Rules")) rfl)
    C_Code := He.ga K "Code"
    C_Code_g := He.glo_ok X G (c.fact 2 (f := fFa (.glo "Code")) rfl)
    C_Code_c := He.cls_ok (c.fact 3 (f := fFa (.cls "Code")) rfl)
    is_integer_a := _
    is_integer_d := fd_is_integer
    is_integer_f := F_is_integer
    is_integer_g := He.glo_ok X G (c.fact 4 (f := fFa (.glo "is_integer")) rfl)
    is_integer_b := FunD.bindsN (ps := ["value"]) F_is_integer fun _ _ _ _ _ _ us hl => match us, hl with | [_], _ => rfl
    is_within_a := _
    is_within_d := fd_is_within
    is_within_f := F_is_within
    is_within_g := He.glo_ok X G (c.fact 5 (f := fFa (.glo "is_within")) rfl)
    is_within_b := FunD.bindsN (ps := ["value", "low", "high"]) F_is_within fun _ _ _ _ _ _ us hl => match us, hl with | [_, _, _], _ => rfl
    is_sign_a := _
    is_sign_d := fd_is_sign
    is_sign_f := F_is_sign
    is_sign_g := He.glo_ok X G (c.fact 6 (f := fFa (.glo "is_sign")) rfl)
    is_sign_b := FunD.bindsN (ps := ["value"]) F_is_sign fun _ _ _ _ _ _ us hl => match us, hl with | [_], _ => rfl
    are_signs_a := _
    are_signs_d := fd_are_signs
    are_signs_f := F_are_signs
    are_signs_g := He.glo_ok X G (c.fact 7 (f := fFa (.glo "are_signs")) rfl)
    are_signs_b := FunD.bindsN (ps := ["value"]) F_are_signs fun _ _ _ _ _ _ us hl => match us, hl with | [_], _ => rfl
    are_characters_a := _
    are_characters_d := fd_are_characters
    are_characters_f := F_are_characters
    are_characters_g := He.glo_ok X G (c.fact 8 (f := fFa (.glo "are_characters")) rfl)
    are_characters_b := FunD.bindsN (ps := ["value"]) F_are_characters fun _ _ _ _ _ _ us hl => match us, hl with | [_], _ => rfl
    check_text_a := _
    check_text_d := fd_check_text
    check_text_f := F_check_text
    check_text_g := He.glo_ok X G (c.fact 9 (f := fFa (.glo "check_text")) rfl)
    check_text_b := FunD.bindsN (ps := ["value"]) F_check_text fun _ _ _ _ _ _ us hl => match us, hl with | [_], _ => rfl
    other_case_a := _
    other_case_d := fd_other_case
    other_case_f := F_other_case
    other_case_g := He.glo_ok X G (c.fact 10 (f := fFa (.glo "other_case")) rfl)
    other_case_b := FunD.bindsN (ps := ["letter"]) F_other_case fun _ _ _ _ _ _ us hl => match us, hl with | [_], _ => rfl
    is_option_a := _
    is_option_d := fd_is_option
    is_option_f := F_is_option
    is_option_g := He.glo_ok X G (c.fact 11 (f := fFa (.glo "is_option")) rfl)
    is_option_b := FunD.bindsN (ps := ["name", "value"]) F_is_option fun _ _ _ _ _ _ us hl => match us, hl with | [_, _], _ => rfl
    Rules___init___a := _
    Rules___init___d := fd_Rules___init__
    Rules___init___f := F_Rules___init__
    C_Rules_m := He.mkr_ok (c.fact 12 (f := fFa (.mkr "Rules")) rfl)
    Rules_pads_a := _
    Rules_pads_d := fd_Rules_pads
    Rules_pads_f := F_Rules_pads
    Rules_pads_q := _
    Rules_pads_p := fProp_ok (c.fact 13 (f := fProp "Rules" "pads") rfl)
    Rules_pads_b := FunD.bindsN (ps := ["self"]) F_Rules_pads fun _ _ _ _ _ _ us hl => match us, hl with | [_], _ => rfl
    Rules_skip_a := _
    Rules_skip_d := fd_Rules_skip
    Rules_skip_f := F_Rules_skip
    Rules_skip_q := _
    Rules_skip_p := fProp_ok (c.fact 14 (f := fProp "Rules" "skip") rfl)
    Rules_skip_b := FunD.bindsN (ps := ["self"]) F_Rules_skip fun _ _ _ _ _ _ us hl => match us, hl with | [_], _ => rfl
    Rules_lines_a := _
    Rules_lines_d := fd_Rules_lines
    Rules_lines_f := F_Rules_lines
    Rules_lines_q := _
    Rules_lines_p := fProp_ok (c.fact 15 (f := fProp "Rules" "lines") rfl)
    Rules_lines_b := FunD.bindsN (ps := ["self"]) F_Rules_lines fun _ _ _ _ _ _ us hl => match us, hl with | [_], _ => rfl
    Rules_loose_a := _
    Rules_loose_d := fd_Rules_loose
    Rules_loose_f := F_Rules_loose
    Rules_loose_q := _
    Rules_loose_p := fProp_ok (c.fact 16 (f := fProp "Rules" "loose") rfl)
    Rules_loose_b := FunD.bindsN (ps := ["self"]) F_Rules_loose fun _ _ _ _ _ _ us hl => match us, hl with | [_], _ => rfl
    Rules_fold_a := _
    Rules_fold_d := fd_Rules_fold
    Rules_fold_f := F_Rules_fold
    Rules_fold_q := _
    Rules_fold_p := fProp_ok (c.fact 17 (f := fProp "Rules" "fold") rfl)
    Rules_fold_b := FunD.bindsN (ps := ["self"]) F_Rules_fold fun _ _ _ _ _ _ us hl => match us, hl with | [_], _ => rfl
    Code_signs_a := _
    Code_signs_d := fd_Code_signs
    Code_signs_f := F_Code_signs
    Code_signs_q := _
    Code_signs_p := fProp_ok (c.fact 18 (f := fProp "Code" "signs") rfl)
    Code_signs_b := FunD.bindsN (ps := ["self"]) F_Code_signs fun _ _ _ _ _ _ us hl => match us, hl with | [_], _ => rfl
    Code_pad_a := _
    Code_pad_d := fd_Code_pad
    Code_pad_f := F_Code_pad
    Code_pad_q := _
    Code_pad_p := fProp_ok (c.fact 19 (f := fProp "Code" "pad") rfl)
    Code_pad_b := FunD.bindsN (ps := ["self"]) F_Code_pad fun _ _ _ _ _ _ us hl => match us, hl with | [_], _ => rfl
    Code_width_a := _
    Code_width_d := fd_Code_width
    Code_width_f := F_Code_width
    Code_width_q := _
    Code_width_p := fProp_ok (c.fact 20 (f := fProp "Code" "width") rfl)
    Code_width_b := FunD.bindsN (ps := ["self"]) F_Code_width fun _ _ _ _ _ _ us hl => match us, hl with | [_], _ => rfl
    Code_bits_a := _
    Code_bits_d := fd_Code_bits
    Code_bits_f := F_Code_bits
    Code_bits_q := _
    Code_bits_p := fProp_ok (c.fact 21 (f := fProp "Code" "bits") rfl)
    Code_bits_b := FunD.bindsN (ps := ["self"]) F_Code_bits fun _ _ _ _ _ _ us hl => match us, hl with | [_], _ => rfl
    Code_group_a := _
    Code_group_d := fd_Code_group
    Code_group_f := F_Code_group
    Code_group_q := _
    Code_group_p := fProp_ok (c.fact 22 (f := fProp "Code" "group") rfl)
    Code_group_b := FunD.bindsN (ps := ["self"]) F_Code_group fun _ _ _ _ _ _ us hl => match us, hl with | [_], _ => rfl
    Code___contains___a := _
    Code___contains___d := fd_Code___contains__
    Code___contains___f := F_Code___contains__
    Code___contains___m := He.meth_ok (c.fact 23 (f := fFa (.meth "Code" "__contains__")) rfl)
    Code___contains___b := FunD.bindsN (ps := ["self", "value"]) F_Code___contains__ fun _ _ _ _ _ _ us hl => match us, hl with | [_, _], _ => rfl
    Code___init___a := _
    Code___init___d := fd_Code___init__
    Code___init___f := F_Code___init__
    C_Code_m := He.mkr_ok (c.fact 24 (f := fFa (.mkr "Code")) rfl)
    Code_has_rows_a := _
    Code_has_rows_d := fd_Code_has_rows
    Code_has_rows_f := F_Code_has_rows
    Code_has_rows_m := He.meth_ok (c.fact 25 (f := fFa (.meth "Code" "has_rows")) rfl)
    Code_has_rows_b := FunD.bindsN (ps := ["self", "rules"]) F_Code_has_rows fun _ _ _ _ _ _ us hl => match us, hl with | [_, _], _ => rfl
    Code_is_foreign_a := _
    Code_is_foreign_d := fd_Code_is_foreign
    Code_is_foreign_f := F_Code_is_foreign
    Code_is_foreign_m := He.meth_ok (c.fact 26 (f := fFa (.meth "Code" "is_foreign")) rfl)
    Code_is_foreign_b := FunD.bindsN (ps := ["self", "rules", "character"]) F_Code_is_foreign fun _ _ _ _ _ _ us hl => match us, hl with | [_, _, _], _ => rfl
    Code_suits_a := _
    Code_suits_d := fd_Code_suits
    Code_suits_f := F_Code_suits
    Code_suits_m := He.meth_ok (c.fact 27 (f := fFa (.meth "Code" "suits")) rfl)
    Code_suits_b := FunD.bindsN (ps := ["self", "rules"]) F_Code_suits fun _ _ _ _ _ _ us hl => match us, hl with | [_, _], _ => rfl
    Code_is_full_a := _
    Code_is_full_d := fd_Code_is_full
    Code_is_full_f := F_Code_is_full
    Code_is_full_m := He.meth_ok (c.fact 28 (f := fFa (.meth "Code" "is_full")) rfl)
    Code_is_full_b := FunD.bindsN (ps := ["self", "column"]) F_Code_is_full fun _ _ _ _ _ _ us hl => match us, hl with | [_, _], _ => rfl
    Code_next_column_a := _
    Code_next_column_d := fd_Code_next_column
    Code_next_column_f := F_Code_next_column
    Code_next_column_m := He.meth_ok (c.fact 29 (f := fFa (.meth "Code" "next_column")) rfl)
    Code_next_column_b := FunD.bindsN (ps := ["self", "column"]) F_Code_next_column fun _ _ _ _ _ _ us hl => match us, hl with | [_, _], _ => rfl
    Code_read_digit_a := _
    Code_read_digit_d := fd_Code_read_digit
    Code_read_digit_f := F_Code_read_digit
    Code_read_digit_m := He.meth_ok (c.fact 30 (f := fFa (.meth "Code" "read_digit")) rfl)
    Code_read_digit_b := FunD.bindsN (ps := ["self", "rules", "character"]) F_Code_read_digit fun _ _ _ _ _ _ us hl => match us, hl with | [_, _, _], _ => rfl
    Code_opening_a := _
    Code_opening_d := fd_Code_opening
    Code_opening_f := F_Code_opening
    Code_opening_m := He.meth_ok (c.fact 31 (f := fFa (.meth "Code" "opening")) rfl)
    Code_opening_b := FunD.bindsN (ps := ["self"]) F_Code_opening fun _ _ _ _ _ _ us hl => match us, hl with | [_], _ => rfl
    Code_is_whole_a := _
    Code_is_whole_d := fd_Code_is_whole
    Code_is_whole_f := F_Code_is_whole
    Code_is_whole_m := He.meth_ok (c.fact 32 (f := fFa (.meth "Code" "is_whole")) rfl)
    Code_is_whole_b := FunD.bindsN (ps := ["self", "rules", "bits"]) F_Code_is_whole fun _ _ _ _ _ _ us hl => match us, hl with | [_, _, _], _ => rfl
    Code_missing_pads_a := _
    Code_missing_pads_d := fd_Code_missing_pads
    Code_missing_pads_f := F_Code_missing_pads
    Code_missing_pads_m := He.meth_ok (c.fact 33 (f := fFa (.meth "Code" "missing_pads")) rfl)
    Code_missing_pads_b := FunD.bindsN (ps := ["self", "state"]) F_Code_missing_pads fun _ _ _ _ _ _ us hl => match us, hl with | [_, _], _ => rfl
    Code_may_pad_a := _
    Code_may_pad_d := fd_Code_may_pad
    Code_may_pad_f := F_Code_may_pad
    Code_may_pad_m := He.meth_ok (c.fact 34 (f := fFa (.meth "Code" "may_pad")) rfl)
    Code_may_pad_b := FunD.bindsN (ps := ["self", "rules", "state"]) F_Code_may_pad fun _ _ _ _ _ _ us hl => match us, hl with | [_, _, _], _ => rfl
    Code_may_end_a := _
    Code_may_end_d := fd_Code_may_end
    Code_may_end_f := F_Code_may_end
    Code_may_end_m := He.meth_ok (c.fact 35 (f := fFa (.meth "Code" "may_end")) rfl)
    Code_may_end_b := FunD.bindsN (ps := ["self", "rules", "state"]) F_Code_may_end fun _ _ _ _ _ _ us hl => match us, hl with | [_, _, _], _ => rfl
    Code_take_a := _
    Code_take_d := fd_Code_take
    Code_take_f := F_Code_take
    Code_take_m := He.meth_ok (c.fact 36 (f := fFa (.meth "Code" "take")) rfl)
    Code_take_b := FunD.bindsN (ps := ["self", "rules", "state", "character"]) F_Code_take fun _ _ _ _ _ _ us hl => match us, hl with | [_, _, _, _], _ => rfl
    Machine_whole_data_a := _
    Machine_whole_data_d := fd_Machine_whole_data
    Machine_whole_data_f := F_Machine_whole_data
    Machine_whole_data_m := He.meth_ok (c.fact 37 (f := fFa (.meth "Code" "whole_data")) rfl)
    Machine_whole_data_b := FunD.bindsN (ps := ["self", "rules", "text"]) F_Machine_whole_data fun _ _ _ _ _ _ us hl => match us, hl with | [_, _, _], _ => rfl
    Rules_suit_a := _
    Rules_suit_d := fd_Rules_suit
    Rules_suit_f := F_Rules_suit
    Rules_suit_m := He.meth_ok (c.fact 38 (f := fFa (.meth "Rules" "suit")) rfl)
    Rules_suit_b := FunD.bindsN (ps := ["self", "code"]) F_Rules_suit fun _ _ _ _ _ _ us hl => match us, hl with | [_, _], _ => rfl
    Machine_usual_a := _
    Machine_usual_d := fd_Machine_usual
    Machine_usual_f := F_Machine_usual
    Machine_usual_m := He.meth_ok (c.fact 39 (f := fFa (.meth "Code" "usual")) rfl)
    Machine_usual_b := FunD.bindsN (ps := ["self"]) F_Machine_usual fun _ _ _ _ _ _ us hl => match us, hl with | [_], _ => rfl
    rules_for_a := _
    rules_for_d := fd_rules_for
    rules_for_f := F_rules_for
    rules_for_g := He.glo_ok X G (c.fact 40 (f := fFa (.glo "rules_for")) rfl)
    rules_for_b := FunD.bindsN (ps := ["code", "rules"]) F_rules_for fun _ _ _ _ _ _ us hl => match us, hl with | [_, _], _ => rfl
    is_right_a := _
    is_right_d := fd_is_right
    is_right_f := F_is_right
    is_right_g := He.glo_ok X G (c.fact 41 (f := fFa (.glo "is_right")) rfl)
    is_right_b := binds_all (ps := ["code", "text", "rules"]) (dvs := [.non]) F_is_right (List.cons_ne_nil _ _) fun _ _ _ _ _ _ _ us its h1 h2 => match us, its, h1, h2 with | [_, _, _], [_], _, _ => ⟨_, rfl, rfl⟩
    l_bag_a := _
    l_bag_d := fd_l_bag
    l_bag_f := F_l_bag
    l_bag_g := He.glo_ok X G (c.fact 42 (f := fFa (.glo "_law_bag")) rfl)
    l_bag_b := FunD.bindsN (ps := ["_law_script", "_law_at"]) F_l_bag fun _ _ _ _ _ _ us hl => match us, hl with | [_, _], _ => rfl
    l_take_a := _
    l_take_d := fd_l_take
    l_take_f := F_l_take
    l_take_g := He.glo_ok X G (c.fact 43 (f := fFa (.glo "_law_take")) rfl)
    l_take_b := FunD.bindsN (ps := ["_law_bag_here", "_law_many"]) F_l_take fun _ _ _ _ _ _ us hl => match us, hl with | [_, _], _ => rfl
    l_of_a := _
    l_of_d := fd_l_of
    l_of_f := F_l_of
    l_of_g := He.glo_ok X G (c.fact 44 (f := fFa (.glo "_law_of")) rfl)
    l_of_b := FunD.bindsN (ps := ["_law_bag_here", "_law_some"]) F_l_of fun _ _ _ _ _ _ us hl => match us, hl with | [_, _], _ => rfl
    l_all_signs_a := _
    l_all_signs_d := fd_l_all_signs
    l_all_signs_f := F_l_all_signs
    l_all_signs_g := He.glo_ok X G (c.fact 45 (f := fFa (.glo "_law_all_signs")) rfl)
    l_all_signs_b := FunD.bindsN (ps := []) F_l_all_signs fun _ _ _ _ _ _ us hl => match us, hl with | [], _ => rfl
    l_code_a := _
    l_code_d := fd_l_code
    l_code_f := F_l_code
    l_code_g := He.glo_ok X G (c.fact 46 (f := fFa (.glo "_law_code")) rfl)
    l_code_b := FunD.bindsN (ps := ["_law_bag_here"]) F_l_code fun _ _ _ _ _ _ us hl => match us, hl with | [_], _ => rfl
    l_made_a := _
    l_made_d := fd_l_made
    l_made_f := F_l_made
    l_made_g := He.glo_ok X G (c.fact 47 (f := fFa (.glo "_law_made")) rfl)
    l_made_b := FunD.bindsN (ps := ["_law_code_here"]) F_l_made fun _ _ _ _ _ _ us hl => match us, hl with | [_], _ => rfl
    l_size_a := _
    l_size_d := fd_l_size
    l_size_f := F_l_size
    l_size_g := He.glo_ok X G (c.fact 48 (f := fFa (.glo "_law_size")) rfl)
    l_size_b := FunD.bindsN (ps := ["_law_code_here"]) F_l_size fun _ _ _ _ _ _ us hl => match us, hl with | [_], _ => rfl
    l_group_a := _
    l_group_d := fd_l_group
    l_group_f := F_l_group
    l_group_g := He.glo_ok X G (c.fact 49 (f := fFa (.glo "_law_group")) rfl)
    l_group_b := FunD.bindsN (ps := ["_law_code_here"]) F_l_group fun _ _ _ _ _ _ us hl => match us, hl with | [_], _ => rfl
    l_data_a := _
    l_data_d := fd_l_data
    l_data_f := F_l_data
    l_data_g := He.glo_ok X G (c.fact 50 (f := fFa (.glo "_law_data")) rfl)
    l_data_b := FunD.bindsN (ps := ["_law_bag_here", "_law_most"]) F_l_data fun _ _ _ _ _ _ us hl => match us, hl with | [_, _], _ => rfl
    l_bits_a := _
    l_bits_d := fd_l_bits
    l_bits_f := F_l_bits
    l_bits_g := He.glo_ok X G (c.fact 51 (f := fFa (.glo "_law_bits")) rfl)
    l_bits_b := FunD.bindsN (ps := ["_law_data_here"]) F_l_bits fun _ _ _ _ _ _ us hl => match us, hl with | [_], _ => rfl
    l_number_a := _
    l_number_d := fd_l_number
    l_number_f := F_l_number
    l_number_g := He.glo_ok X G (c.fact 52 (f := fFa (.glo "_law_number")) rfl)
    l_number_b := FunD.bindsN (ps := ["_law_bits_here"]) F_l_number fun _ _ _ _ _ _ us hl => match us, hl with | [_], _ => rfl
    l_digits_a := _
    l_digits_d := fd_l_digits
    l_digits_f := F_l_digits
    l_digits_g := He.glo_ok X G (c.fact 53 (f := fFa (.glo "_law_digits")) rfl)
    l_digits_b := FunD.bindsN (ps := ["_law_code_here", "_law_data_here"]) F_l_digits fun _ _ _ _ _ _ us hl => match us, hl with | [_, _], _ => rfl
    l_rows_a := _
    l_rows_d := fd_l_rows
    l_rows_f := F_l_rows
    l_rows_g := He.glo_ok X G (c.fact 54 (f := fFa (.glo "_law_rows")) rfl)
    l_rows_b := FunD.bindsN (ps := ["_law_code_here", "_law_row"]) F_l_rows fun _ _ _ _ _ _ us hl => match us, hl with | [_, _], _ => rfl
    l_other_a := _
    l_other_d := fd_l_other
    l_other_f := F_l_other
    l_other_g := He.glo_ok X G (c.fact 55 (f := fFa (.glo "_law_other")) rfl)
    l_other_b := FunD.bindsN (ps := ["_law_letter"]) F_l_other fun _ _ _ _ _ _ us hl => match us, hl with | [_], _ => rfl
    l_ruled_a := _
    l_ruled_d := fd_l_ruled
    l_ruled_f := F_l_ruled
    l_ruled_g := He.glo_ok X G (c.fact 56 (f := fFa (.glo "_law_ruled")) rfl)
    l_ruled_b := FunD.bindsN (ps := ["_law_bag_here", "_law_code_here"]) F_l_ruled fun _ _ _ _ _ _ us hl => match us, hl with | [_, _], _ => rfl
    l_made_rules_a := _
    l_made_rules_d := fd_l_made_rules
    l_made_rules_f := F_l_made_rules
    l_made_rules_g := He.glo_ok X G (c.fact 57 (f := fFa (.glo "_law_made_rules")) rfl)
    l_made_rules_b := FunD.bindsN (ps := ["_law_ruled_here"]) F_l_made_rules fun _ _ _ _ _ _ us hl => match us, hl with | [_], _ => rfl
    l_digit_a := _
    l_digit_d := fd_l_digit
    l_digit_f := F_l_digit
    l_digit_g := He.glo_ok X G (c.fact 58 (f := fFa (.glo "_law_digit")) rfl)
    l_digit_b := FunD.bindsN (ps := ["_law_code_here", "_law_ruled_here", "_law_one"]) F_l_digit fun _ _ _ _ _ _ us hl => match us, hl with | [_, _, _], _ => rfl
    l_spelt_a := _
    l_spelt_d := fd_l_spelt
    l_spelt_f := F_l_spelt
    l_spelt_g := He.glo_ok X G (c.fact 59 (f := fFa (.glo "_law_spelt")) rfl)
    l_spelt_b := FunD.bindsN (ps := ["_law_bag_here", "_law_code_here", "_law_ruled_here", "_law_data_here"]) F_l_spelt fun _ _ _ _ _ _ us hl => match us, hl with | [_, _, _, _], _ => rfl
    l_noisy_a := _
    l_noisy_d := fd_l_noisy
    l_noisy_f := F_l_noisy
    l_noisy_g := He.glo_ok X G (c.fact 60 (f := fFa (.glo "_law_noisy")) rfl)
    l_noisy_b := FunD.bindsN (ps := ["_law_bag_here", "_law_ruled_here", "_law_text"]) F_l_noisy fun _ _ _ _ _ _ us hl => match us, hl with | [_, _, _], _ => rfl
    l_right_text_a := _
    l_right_text_d := fd_l_right_text
    l_right_text_f := F_l_right_text
    l_right_text_g := He.glo_ok X G (c.fact 61 (f := fFa (.glo "_law_right_text")) rfl)
    l_right_text_b := FunD.bindsN (ps := ["_law_bag_here", "_law_code_here", "_law_ruled_here", "_law_data_here"]) F_l_right_text fun _ _ _ _ _ _ us hl => match us, hl with | [_, _, _, _], _ => rfl
    l_kind_a := _
    l_kind_d := fd_l_kind
    l_kind_f := F_l_kind
    l_kind_g := He.glo_ok X G (c.fact 62 (f := fFa (.glo "_law_kind")) rfl)
    l_kind_b := FunD.bindsN (ps := ["_law_code_here", "_law_ruled_here", "_law_one"]) F_l_kind fun _ _ _ _ _ _ us hl => match us, hl with | [_, _, _], _ => rfl
    l_is_whole_a := _
    l_is_whole_d := fd_l_is_whole
    l_is_whole_f := F_l_is_whole
    l_is_whole_g := He.glo_ok X G (c.fact 63 (f := fFa (.glo "_law_is_whole")) rfl)
    l_is_whole_b := FunD.bindsN (ps := ["_law_code_here", "_law_ruled_here", "_law_bits_here"]) F_l_is_whole fun _ _ _ _ _ _ us hl => match us, hl with | [_, _, _], _ => rfl
    l_may_pad_a := _
    l_may_pad_d := fd_l_may_pad
    l_may_pad_f := F_l_may_pad
    l_may_pad_g := He.glo_ok X G (c.fact 64 (f := fFa (.glo "_law_may_pad")) rfl)
    l_may_pad_b := FunD.bindsN (ps := ["_law_code_here", "_law_ruled_here", "_law_bits_here", "_law_signs", "_law_ends"]) F_l_may_pad fun _ _ _ _ _ _ us hl => match us, hl with | [_, _, _, _, _], _ => rfl
    l_may_end_a := _
    l_may_end_d := fd_l_may_end
    l_may_end_f := F_l_may_end
    l_may_end_g := He.glo_ok X G (c.fact 65 (f := fFa (.glo "_law_may_end")) rfl)
    l_may_end_b := FunD.bindsN (ps := ["_law_code_here", "_law_ruled_here", "_law_bits_here", "_law_signs", "_law_ends"]) F_l_may_end fun _ _ _ _ _ _ us hl => match us, hl with | [_, _, _, _, _], _ => rfl
    l_read_a := _
    l_read_d := fd_l_read
    l_read_f := F_l_read
    l_read_g := He.glo_ok X G (c.fact 66 (f := fFa (.glo "_law_read")) rfl)
    l_read_b := FunD.bindsN (ps := ["_law_code_here", "_law_ruled_here", "_law_text"]) F_l_read fun _ _ _ _ _ _ us hl => match us, hl with | [_, _, _], _ => rfl
    l_bent_a := _
    l_bent_d := fd_l_bent
    l_bent_f := F_l_bent
    l_bent_g := He.glo_ok X G (c.fact 67 (f := fFa (.glo "_law_bent")) rfl)
    l_bent_b := FunD.bindsN (ps := ["_law_bag_here", "_law_code_here", "_law_ruled_here", "_law_text"]) F_l_bent fun _ _ _ _ _ _ us hl => match us, hl with | [_, _, _, _], _ => rfl
    l_right_a := _
    l_right_d := fd_l_right
    l_right_f := F_l_right
    l_right_g := He.glo_ok X G (c.fact 68 (f := fFa (.glo "_law_right")) rfl)
    l_right_b := FunD.bindsN (ps := ["_law_real", "_law_own", "_law_code_here", "_law_ruled_here", "_law_text"]) F_l_right fun _ _ _ _ _ _ us hl => match us, hl with | [_, _, _, _, _], _ => rfl
    law_a := _
    law_d := fd_law
    law_f := F_law
    law_g := He.glo_ok X G (c.fact 69 (f := fFa (.glo "law")) rfl)
    law_b := FunD.bindsN (ps := ["_law_script"]) F_law fun _ _ _ _ _ _ us hl => match us, hl with | [_], _ => rfl
    Rules___init___k0_ := kb_Rules___init___ F_Rules___init__
    Code___init___k1_pad_width := kb_Code___init___pad_width F_Code___init__
    Rules___init___k0_pads_skip_lines_loose_fold := kb_Rules___init___pads_skip_lines_loose_fold F_Rules___init__
    C_Rules_n_options := He.noat_ok (c.fact 70 (f := fFa (.noat "Rules" "options")) rfl)
    C_Code_n_parts := He.noat_ok (c.fact 71 (f := fFa (.noat "Code" "parts")) rfl)
    C_Code_n_sign_bits := He.noat_ok (c.fact 72 (f := fFa (.noat "Code" "sign_bits")) rfl)
    C_Code_n_digits := He.noat_ok (c.fact 73 (f := fFa (.noat "Code" "digits")) rfl)
    C_Code_r := fCRead_ok (c.fact 74 (f := fCRead "Code") rfl)
    C_Code_v_WIDEST := fCVal_ok (c.fact 75 (f := fCVal "Code" "WIDEST" (.int 76)) rfl)
    k_PRINTED_u := _
    k_PRINTED_g := h_PRINTED
    k_PRINTED_r := ⟨t_PRINTED, rfl⟩
    k_CHARACTERS_u := _
    k_CHARACTERS_g := h_CHARACTERS
    k_CHARACTERS_r := ⟨t_CHARACTERS, rfl⟩
    k_MOST_CHARACTERS_u := _
    k_MOST_CHARACTERS_g := h_MOST_CHARACTERS
    k_MOST_CHARACTERS_r := ⟨t_MOST_CHARACTERS, rfl⟩
    k_SMALLS_u := _
    k_SMALLS_g := h_SMALLS
    k_SMALLS_r := ⟨t_SMALLS, rfl⟩
    k_CAPITALS_u := _
    k_CAPITALS_g := h_CAPITALS
    k_CAPITALS_r := ⟨t_CAPITALS, rfl⟩
    k_PADS_a := He.ga K "PADS"
    k_PADS_g := He.glo_ok X G (c.fact 81 (f := fFa (.glo "PADS")) rfl)
    k_PADS_t := fun H => He.tupB_ok (c.fact 82 (f := fTup "PADS" [.str "full", .str "none", .str "optional", .str "any"]) rfl) H
    k_OPTIONS_a := He.ga K "OPTIONS"
    k_OPTIONS_g := He.glo_ok X G (c.fact 83 (f := fFa (.glo "OPTIONS")) rfl)
    k_OPTIONS_t := fun H => He.tupB_ok (c.fact 84 (f := fTup "OPTIONS" [.str "pads", .str "skip", .str "lines", .str "loose", .str "fold"]) rfl) H
    k_GROUPS_a := He.ga K "GROUPS"
    k_GROUPS_g := He.glo_ok X G (c.fact 85 (f := fFa (.glo "GROUPS")) rfl)
    k_GROUPS_t := fun H => He.tupB_ok (c.fact 86 (f := fTup "GROUPS" [.int 0, .int 8, .int 4, .int 8, .int 2, .int 8, .int 4]) rfl) H
    k_BITS_a := He.ga K "BITS"
    k_BITS_g := He.glo_ok X G (c.fact 87 (f := fFa (.glo "BITS")) rfl)
    k_BITS_d := idB_ok (c.fact 88 (f := (fun K => idB K (He.ga K "BITS") [(2, 1), (4, 2), (8, 3), (16, 4), (32, 5), (64, 6)])) rfl)
    k_NEWLINE_u := _
    k_NEWLINE_g := h_NEWLINE
    k_NEWLINE_r := ⟨t_NEWLINE, rfl⟩
    k_BYTE_BITS_u := _
    k_BYTE_BITS_g := h_BYTE_BITS
    k_BYTE_BITS_r := ⟨t_BYTE_BITS, rfl⟩
    n_abs := He.free_ok X G (c.fact 91 (f := fFa (.free "abs")) rfl)
    n_all := He.free_ok X G (c.fact 92 (f := fFa (.free "all")) rfl)
    n_bool := He.free_ok X G (c.fact 93 (f := fFa (.free "bool")) rfl)
    n_enumerate := He.free_ok X G (c.fact 94 (f := fFa (.free "enumerate")) rfl)
    n_int := He.free_ok X G (c.fact 95 (f := fFa (.free "int")) rfl)
    n_isinstance := He.free_ok X G (c.fact 96 (f := fFa (.free "isinstance")) rfl)
    n_len := He.free_ok X G (c.fact 97 (f := fFa (.free "len")) rfl)
    n_list := He.free_ok X G (c.fact 98 (f := fFa (.free "list")) rfl)
    n_max := He.free_ok X G (c.fact 99 (f := fFa (.free "max")) rfl)
    n_min := He.free_ok X G (c.fact 100 (f := fFa (.free "min")) rfl)
    n_range := He.free_ok X G (c.fact 101 (f := fFa (.free "range")) rfl)
    n_repr := He.free_ok X G (c.fact 102 (f := fFa (.free "repr")) rfl)
    n_str := He.free_ok X G (c.fact 103 (f := fFa (.free "str")) rfl)
    n_super := He.free_ok X G (c.fact 104 (f := fFa (.free "super")) rfl)
    X_NoCharacter := _
    X_NoCharacter_f := _
    X_NoCharacter_F := XF_NoCharacter
    X_NoCharacter_g := He.glo_ok X G XF_NoCharacter.glo
    C_Rules_is := fIns_ok (c.fact 105 (f := fIns "Rules") rfl)
    }, rfl, fun s v => FunD.bindsA (ps := ["_law_script"]) F_law (fun _ _ _ _ _ _ us hl => match us, hl with | [_], _ => rfl) s [v] rfl⟩
end
end Px
open PySem PySem.W PySem.Calls PyProof.Rows
set_option maxHeartbeats 0 in
theorem PySem.Challenge.cw_piecetexts_k19_right_texts_told_holds : PySem.Challenge.rw_piecetexts_k19_right_texts_told.Holds := by
  w_on; o_law
  refine HandSHeadRun.head_any (r := OpenLaw.row PySem.Challenge.rw_piecetexts_k19_right_texts_told) (q := view (OpenLaw.row PySem.Challenge.rw_piecetexts_k19_right_texts_told).prog [64]) (H := Px.hhook) (ob := Px.hob) (M := 9000) (loose := Px.hloose) (d := HandSHeadRun.topDef (OpenLaw.row PySem.Challenge.rw_piecetexts_k19_right_texts_told).prog 64) (kwd := []) Px.hob_eq
    (by kernel_rfl) (fun s => by kernel_rfl) Px.hrun (by kernel_rfl) (by kernel_rfl) (by kernel_rfl) (by rfl) (by first | assumption | decide +kernel) (by decide +kernel) ⟨rfl, rfl, rfl, rfl, rfl, by decide +kernel⟩ ?hw ?hc
  case hw => w_witness2
  case hc =>
    refine Px.walk_G (l := PySem.Challenge.rw_piecetexts_k19_right_texts_told) (n := 63) (k := 9) (x := "_law_script") rfl (by decide) (by kernel_rfl) ⟨rfl, by decide, by decide⟩ ?F
    intro w mg fa h Y G hmg0
    obtain ⟨K, KX, c⟩ := Y
    have hmg : mg ("law" : PySem.Str) = some (.ref fa) := by
      have e : (HandSHeadRun.topDef (OpenLaw.row PySem.Challenge.rw_piecetexts_k19_right_texts_told).prog 64).name = ("law" : PySem.Str) := by kernel_rfl
      rw [← e]
      exact hmg0
    obtain ⟨T, rfl, hb⟩ := Px.htxt KX G hmg c
    exact ⟨K, T.law_d, Px.sp_law T, KX, hb, fun H a ns hl _ hS => ⟨a, ns, rfl, hS, hl, fun _ => rfl⟩, fun base _ _ => Px.P_eq ▸ Px.ok_law T⟩


